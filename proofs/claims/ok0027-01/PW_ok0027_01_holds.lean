import PyProof.Rows.All
import Wide.All
import OpenK.AllK
import Wide.FinOn
import PySem.Challenge.RW_ok0027_01
open PySem PySem.W PyProof.Rows
set_option Elab.async false
set_option pp.deepTerms false
set_option pp.deepTerms.threshold 4
set_option linter.unusedVariables false
set_option maxRecDepth 100000
set_option maxHeartbeats 8000000
namespace Mine
abbrev kPw : Program := PySem.Challenge.pw_ok0027_01
def nthS : List Stmt → Nat → Stmt
  | s :: _, 0 => s
  | _ :: l, n + 1 => nthS l n
  | [], _ => .Pass ⟨0, 0, 0, 0⟩
def fB : Stmt → List Stmt
  | .FunctionDef _ _ b _ _ _ _ _ _ _ => b
  | .ClassDef _ _ _ b _ _ _ _ _ _ _ => b
  | _ => []
def fA : Stmt → Arguments
  | .FunctionDef _ a _ _ _ _ _ _ _ _ => a
  | _ => { posonlyargs := [], args := [], vararg := none, kwonlyargs := [], kw_defaults := [], kwarg := none, defaults := [] }
def fS : Stmt → Scope
  | .FunctionDef _ _ _ _ _ _ s _ _ _ => s
  | _ => { kind := .function, names := [], isGenerator := false, isCoroutine := false }
noncomputable abbrev kSt : {b : List Stmt // b = kPw.main.body} := by
  apply Subtype.mk
  conv => rhs; whnf
noncomputable abbrev kT0 : {s : Stmt // s = nthS kSt.1 0} := by
  apply Subtype.mk
  conv => rhs; whnf
noncomputable abbrev kT3 : {s : Stmt // s = nthS kSt.1 3} := by
  apply Subtype.mk
  conv => rhs; whnf
noncomputable abbrev kT6 : {s : Stmt // s = nthS kSt.1 6} := by
  apply Subtype.mk
  conv => rhs; whnf
noncomputable abbrev kT7 : {s : Stmt // s = nthS kSt.1 7} := by
  apply Subtype.mk
  conv => rhs; whnf
noncomputable abbrev kT8 : {s : Stmt // s = nthS kSt.1 8} := by
  apply Subtype.mk
  conv => rhs; whnf
noncomputable abbrev kT10 : {s : Stmt // s = nthS kSt.1 10} := by
  apply Subtype.mk
  conv => rhs; whnf
noncomputable abbrev kT11 : {s : Stmt // s = nthS kSt.1 11} := by
  apply Subtype.mk
  conv => rhs; whnf
noncomputable abbrev kT12 : {s : Stmt // s = nthS kSt.1 12} := by
  apply Subtype.mk
  conv => rhs; whnf
noncomputable abbrev kT19 : {s : Stmt // s = nthS kSt.1 19} := by
  apply Subtype.mk
  conv => rhs; whnf
noncomputable abbrev kT20 : {s : Stmt // s = nthS kSt.1 20} := by
  apply Subtype.mk
  conv => rhs; whnf
noncomputable abbrev kT31 : {s : Stmt // s = nthS kSt.1 31} := by
  apply Subtype.mk
  conv => rhs; whnf
noncomputable abbrev kT33 : {s : Stmt // s = nthS kSt.1 33} := by
  apply Subtype.mk
  conv => rhs; whnf
noncomputable abbrev kT34 : {s : Stmt // s = nthS kSt.1 34} := by
  apply Subtype.mk
  conv => rhs; whnf
noncomputable abbrev kT35 : {s : Stmt // s = nthS kSt.1 35} := by
  apply Subtype.mk
  conv => rhs; whnf
noncomputable abbrev kT36 : {s : Stmt // s = nthS kSt.1 36} := by
  apply Subtype.mk
  conv => rhs; whnf
noncomputable abbrev kT37 : {s : Stmt // s = nthS kSt.1 37} := by
  apply Subtype.mk
  conv => rhs; whnf
noncomputable abbrev kB21 : {b : List Stmt // b = fB kT0.1} := by
  apply Subtype.mk
  conv => rhs; whnf
noncomputable abbrev kA21 : {b : Arguments // b = fA kT0.1} := by
  apply Subtype.mk
  conv => rhs; whnf
noncomputable abbrev kS21 : {b : Scope // b = fS kT0.1} := by
  apply Subtype.mk
  conv => rhs; whnf
noncomputable abbrev kB48 : {b : List Stmt // b = fB (nthS (fB kT3.1) 0)} := by
  apply Subtype.mk
  conv => rhs; whnf
noncomputable abbrev kA48 : {b : Arguments // b = fA (nthS (fB kT3.1) 0)} := by
  apply Subtype.mk
  conv => rhs; whnf
noncomputable abbrev kS48 : {b : Scope // b = fS (nthS (fB kT3.1) 0)} := by
  apply Subtype.mk
  conv => rhs; whnf
noncomputable abbrev kB60 : {b : List Stmt // b = fB kT6.1} := by
  apply Subtype.mk
  conv => rhs; whnf
noncomputable abbrev kA60 : {b : Arguments // b = fA kT6.1} := by
  apply Subtype.mk
  conv => rhs; whnf
noncomputable abbrev kS60 : {b : Scope // b = fS kT6.1} := by
  apply Subtype.mk
  conv => rhs; whnf
noncomputable abbrev kB67 : {b : List Stmt // b = fB kT7.1} := by
  apply Subtype.mk
  conv => rhs; whnf
noncomputable abbrev kA67 : {b : Arguments // b = fA kT7.1} := by
  apply Subtype.mk
  conv => rhs; whnf
noncomputable abbrev kS67 : {b : Scope // b = fS kT7.1} := by
  apply Subtype.mk
  conv => rhs; whnf
noncomputable abbrev kB81 : {b : List Stmt // b = fB (nthS (fB kT8.1) 0)} := by
  apply Subtype.mk
  conv => rhs; whnf
noncomputable abbrev kA81 : {b : Arguments // b = fA (nthS (fB kT8.1) 0)} := by
  apply Subtype.mk
  conv => rhs; whnf
noncomputable abbrev kS81 : {b : Scope // b = fS (nthS (fB kT8.1) 0)} := by
  apply Subtype.mk
  conv => rhs; whnf
noncomputable abbrev kB88 : {b : List Stmt // b = fB (nthS (fB kT8.1) 1)} := by
  apply Subtype.mk
  conv => rhs; whnf
noncomputable abbrev kA88 : {b : Arguments // b = fA (nthS (fB kT8.1) 1)} := by
  apply Subtype.mk
  conv => rhs; whnf
noncomputable abbrev kS88 : {b : Scope // b = fS (nthS (fB kT8.1) 1)} := by
  apply Subtype.mk
  conv => rhs; whnf
noncomputable abbrev kB95 : {b : List Stmt // b = fB (nthS (fB kT8.1) 2)} := by
  apply Subtype.mk
  conv => rhs; whnf
noncomputable abbrev kA95 : {b : Arguments // b = fA (nthS (fB kT8.1) 2)} := by
  apply Subtype.mk
  conv => rhs; whnf
noncomputable abbrev kS95 : {b : Scope // b = fS (nthS (fB kT8.1) 2)} := by
  apply Subtype.mk
  conv => rhs; whnf
noncomputable abbrev kB102 : {b : List Stmt // b = fB (nthS (fB kT8.1) 3)} := by
  apply Subtype.mk
  conv => rhs; whnf
noncomputable abbrev kA102 : {b : Arguments // b = fA (nthS (fB kT8.1) 3)} := by
  apply Subtype.mk
  conv => rhs; whnf
noncomputable abbrev kS102 : {b : Scope // b = fS (nthS (fB kT8.1) 3)} := by
  apply Subtype.mk
  conv => rhs; whnf
noncomputable abbrev kB109 : {b : List Stmt // b = fB (nthS (fB kT8.1) 4)} := by
  apply Subtype.mk
  conv => rhs; whnf
noncomputable abbrev kA109 : {b : Arguments // b = fA (nthS (fB kT8.1) 4)} := by
  apply Subtype.mk
  conv => rhs; whnf
noncomputable abbrev kS109 : {b : Scope // b = fS (nthS (fB kT8.1) 4)} := by
  apply Subtype.mk
  conv => rhs; whnf
noncomputable abbrev kB116 : {b : List Stmt // b = fB (nthS (fB kT8.1) 5)} := by
  apply Subtype.mk
  conv => rhs; whnf
noncomputable abbrev kA116 : {b : Arguments // b = fA (nthS (fB kT8.1) 5)} := by
  apply Subtype.mk
  conv => rhs; whnf
noncomputable abbrev kS116 : {b : Scope // b = fS (nthS (fB kT8.1) 5)} := by
  apply Subtype.mk
  conv => rhs; whnf
noncomputable abbrev kB123 : {b : List Stmt // b = fB (nthS (fB kT8.1) 6)} := by
  apply Subtype.mk
  conv => rhs; whnf
noncomputable abbrev kA123 : {b : Arguments // b = fA (nthS (fB kT8.1) 6)} := by
  apply Subtype.mk
  conv => rhs; whnf
noncomputable abbrev kS123 : {b : Scope // b = fS (nthS (fB kT8.1) 6)} := by
  apply Subtype.mk
  conv => rhs; whnf
noncomputable abbrev kB130 : {b : List Stmt // b = fB (nthS (fB kT8.1) 7)} := by
  apply Subtype.mk
  conv => rhs; whnf
noncomputable abbrev kA130 : {b : Arguments // b = fA (nthS (fB kT8.1) 7)} := by
  apply Subtype.mk
  conv => rhs; whnf
noncomputable abbrev kS130 : {b : Scope // b = fS (nthS (fB kT8.1) 7)} := by
  apply Subtype.mk
  conv => rhs; whnf
noncomputable abbrev kB137 : {b : List Stmt // b = fB (nthS (fB kT8.1) 8)} := by
  apply Subtype.mk
  conv => rhs; whnf
noncomputable abbrev kA137 : {b : Arguments // b = fA (nthS (fB kT8.1) 8)} := by
  apply Subtype.mk
  conv => rhs; whnf
noncomputable abbrev kS137 : {b : Scope // b = fS (nthS (fB kT8.1) 8)} := by
  apply Subtype.mk
  conv => rhs; whnf
noncomputable abbrev kB144 : {b : List Stmt // b = fB (nthS (fB kT8.1) 9)} := by
  apply Subtype.mk
  conv => rhs; whnf
noncomputable abbrev kA144 : {b : Arguments // b = fA (nthS (fB kT8.1) 9)} := by
  apply Subtype.mk
  conv => rhs; whnf
noncomputable abbrev kS144 : {b : Scope // b = fS (nthS (fB kT8.1) 9)} := by
  apply Subtype.mk
  conv => rhs; whnf
noncomputable abbrev kB151 : {b : List Stmt // b = fB (nthS (fB kT8.1) 10)} := by
  apply Subtype.mk
  conv => rhs; whnf
noncomputable abbrev kA151 : {b : Arguments // b = fA (nthS (fB kT8.1) 10)} := by
  apply Subtype.mk
  conv => rhs; whnf
noncomputable abbrev kS151 : {b : Scope // b = fS (nthS (fB kT8.1) 10)} := by
  apply Subtype.mk
  conv => rhs; whnf
noncomputable abbrev kB165 : {b : List Stmt // b = fB kT10.1} := by
  apply Subtype.mk
  conv => rhs; whnf
noncomputable abbrev kA165 : {b : Arguments // b = fA kT10.1} := by
  apply Subtype.mk
  conv => rhs; whnf
noncomputable abbrev kS165 : {b : Scope // b = fS kT10.1} := by
  apply Subtype.mk
  conv => rhs; whnf
noncomputable abbrev kB172 : {b : List Stmt // b = fB kT11.1} := by
  apply Subtype.mk
  conv => rhs; whnf
noncomputable abbrev kA172 : {b : Arguments // b = fA kT11.1} := by
  apply Subtype.mk
  conv => rhs; whnf
noncomputable abbrev kS172 : {b : Scope // b = fS kT11.1} := by
  apply Subtype.mk
  conv => rhs; whnf
noncomputable abbrev kB179 : {b : List Stmt // b = fB kT12.1} := by
  apply Subtype.mk
  conv => rhs; whnf
noncomputable abbrev kA179 : {b : Arguments // b = fA kT12.1} := by
  apply Subtype.mk
  conv => rhs; whnf
noncomputable abbrev kS179 : {b : Scope // b = fS kT12.1} := by
  apply Subtype.mk
  conv => rhs; whnf
noncomputable abbrev kB195 : {b : List Stmt // b = fB (nthS (fB kT19.1) 0)} := by
  apply Subtype.mk
  conv => rhs; whnf
noncomputable abbrev kA195 : {b : Arguments // b = fA (nthS (fB kT19.1) 0)} := by
  apply Subtype.mk
  conv => rhs; whnf
noncomputable abbrev kS195 : {b : Scope // b = fS (nthS (fB kT19.1) 0)} := by
  apply Subtype.mk
  conv => rhs; whnf
noncomputable abbrev kB202 : {b : List Stmt // b = fB (nthS (fB kT19.1) 1)} := by
  apply Subtype.mk
  conv => rhs; whnf
noncomputable abbrev kA202 : {b : Arguments // b = fA (nthS (fB kT19.1) 1)} := by
  apply Subtype.mk
  conv => rhs; whnf
noncomputable abbrev kS202 : {b : Scope // b = fS (nthS (fB kT19.1) 1)} := by
  apply Subtype.mk
  conv => rhs; whnf
noncomputable abbrev kB209 : {b : List Stmt // b = fB (nthS (fB kT19.1) 2)} := by
  apply Subtype.mk
  conv => rhs; whnf
noncomputable abbrev kA209 : {b : Arguments // b = fA (nthS (fB kT19.1) 2)} := by
  apply Subtype.mk
  conv => rhs; whnf
noncomputable abbrev kS209 : {b : Scope // b = fS (nthS (fB kT19.1) 2)} := by
  apply Subtype.mk
  conv => rhs; whnf
noncomputable abbrev kB216 : {b : List Stmt // b = fB (nthS (fB kT19.1) 3)} := by
  apply Subtype.mk
  conv => rhs; whnf
noncomputable abbrev kA216 : {b : Arguments // b = fA (nthS (fB kT19.1) 3)} := by
  apply Subtype.mk
  conv => rhs; whnf
noncomputable abbrev kS216 : {b : Scope // b = fS (nthS (fB kT19.1) 3)} := by
  apply Subtype.mk
  conv => rhs; whnf
noncomputable abbrev kB223 : {b : List Stmt // b = fB (nthS (fB kT19.1) 4)} := by
  apply Subtype.mk
  conv => rhs; whnf
noncomputable abbrev kA223 : {b : Arguments // b = fA (nthS (fB kT19.1) 4)} := by
  apply Subtype.mk
  conv => rhs; whnf
noncomputable abbrev kS223 : {b : Scope // b = fS (nthS (fB kT19.1) 4)} := by
  apply Subtype.mk
  conv => rhs; whnf
noncomputable abbrev kB230 : {b : List Stmt // b = fB (nthS (fB kT19.1) 5)} := by
  apply Subtype.mk
  conv => rhs; whnf
noncomputable abbrev kA230 : {b : Arguments // b = fA (nthS (fB kT19.1) 5)} := by
  apply Subtype.mk
  conv => rhs; whnf
noncomputable abbrev kS230 : {b : Scope // b = fS (nthS (fB kT19.1) 5)} := by
  apply Subtype.mk
  conv => rhs; whnf
noncomputable abbrev kB237 : {b : List Stmt // b = fB (nthS (fB kT19.1) 6)} := by
  apply Subtype.mk
  conv => rhs; whnf
noncomputable abbrev kA237 : {b : Arguments // b = fA (nthS (fB kT19.1) 6)} := by
  apply Subtype.mk
  conv => rhs; whnf
noncomputable abbrev kS237 : {b : Scope // b = fS (nthS (fB kT19.1) 6)} := by
  apply Subtype.mk
  conv => rhs; whnf
noncomputable abbrev kB244 : {b : List Stmt // b = fB (nthS (fB kT19.1) 7)} := by
  apply Subtype.mk
  conv => rhs; whnf
noncomputable abbrev kA244 : {b : Arguments // b = fA (nthS (fB kT19.1) 7)} := by
  apply Subtype.mk
  conv => rhs; whnf
noncomputable abbrev kS244 : {b : Scope // b = fS (nthS (fB kT19.1) 7)} := by
  apply Subtype.mk
  conv => rhs; whnf
noncomputable abbrev kB251 : {b : List Stmt // b = fB (nthS (fB kT19.1) 8)} := by
  apply Subtype.mk
  conv => rhs; whnf
noncomputable abbrev kA251 : {b : Arguments // b = fA (nthS (fB kT19.1) 8)} := by
  apply Subtype.mk
  conv => rhs; whnf
noncomputable abbrev kS251 : {b : Scope // b = fS (nthS (fB kT19.1) 8)} := by
  apply Subtype.mk
  conv => rhs; whnf
noncomputable abbrev kB258 : {b : List Stmt // b = fB (nthS (fB kT19.1) 9)} := by
  apply Subtype.mk
  conv => rhs; whnf
noncomputable abbrev kA258 : {b : Arguments // b = fA (nthS (fB kT19.1) 9)} := by
  apply Subtype.mk
  conv => rhs; whnf
noncomputable abbrev kS258 : {b : Scope // b = fS (nthS (fB kT19.1) 9)} := by
  apply Subtype.mk
  conv => rhs; whnf
noncomputable abbrev kB265 : {b : List Stmt // b = fB (nthS (fB kT19.1) 10)} := by
  apply Subtype.mk
  conv => rhs; whnf
noncomputable abbrev kA265 : {b : Arguments // b = fA (nthS (fB kT19.1) 10)} := by
  apply Subtype.mk
  conv => rhs; whnf
noncomputable abbrev kS265 : {b : Scope // b = fS (nthS (fB kT19.1) 10)} := by
  apply Subtype.mk
  conv => rhs; whnf
noncomputable abbrev kB272 : {b : List Stmt // b = fB (nthS (fB kT19.1) 11)} := by
  apply Subtype.mk
  conv => rhs; whnf
noncomputable abbrev kA272 : {b : Arguments // b = fA (nthS (fB kT19.1) 11)} := by
  apply Subtype.mk
  conv => rhs; whnf
noncomputable abbrev kS272 : {b : Scope // b = fS (nthS (fB kT19.1) 11)} := by
  apply Subtype.mk
  conv => rhs; whnf
noncomputable abbrev kB279 : {b : List Stmt // b = fB (nthS (fB kT19.1) 12)} := by
  apply Subtype.mk
  conv => rhs; whnf
noncomputable abbrev kA279 : {b : Arguments // b = fA (nthS (fB kT19.1) 12)} := by
  apply Subtype.mk
  conv => rhs; whnf
noncomputable abbrev kS279 : {b : Scope // b = fS (nthS (fB kT19.1) 12)} := by
  apply Subtype.mk
  conv => rhs; whnf
noncomputable abbrev kB286 : {b : List Stmt // b = fB (nthS (fB kT19.1) 13)} := by
  apply Subtype.mk
  conv => rhs; whnf
noncomputable abbrev kA286 : {b : Arguments // b = fA (nthS (fB kT19.1) 13)} := by
  apply Subtype.mk
  conv => rhs; whnf
noncomputable abbrev kS286 : {b : Scope // b = fS (nthS (fB kT19.1) 13)} := by
  apply Subtype.mk
  conv => rhs; whnf
noncomputable abbrev kB293 : {b : List Stmt // b = fB (nthS (fB kT19.1) 14)} := by
  apply Subtype.mk
  conv => rhs; whnf
noncomputable abbrev kA293 : {b : Arguments // b = fA (nthS (fB kT19.1) 14)} := by
  apply Subtype.mk
  conv => rhs; whnf
noncomputable abbrev kS293 : {b : Scope // b = fS (nthS (fB kT19.1) 14)} := by
  apply Subtype.mk
  conv => rhs; whnf
noncomputable abbrev kB300 : {b : List Stmt // b = fB (nthS (fB kT19.1) 15)} := by
  apply Subtype.mk
  conv => rhs; whnf
noncomputable abbrev kA300 : {b : Arguments // b = fA (nthS (fB kT19.1) 15)} := by
  apply Subtype.mk
  conv => rhs; whnf
noncomputable abbrev kS300 : {b : Scope // b = fS (nthS (fB kT19.1) 15)} := by
  apply Subtype.mk
  conv => rhs; whnf
noncomputable abbrev kB307 : {b : List Stmt // b = fB (nthS (fB kT19.1) 16)} := by
  apply Subtype.mk
  conv => rhs; whnf
noncomputable abbrev kA307 : {b : Arguments // b = fA (nthS (fB kT19.1) 16)} := by
  apply Subtype.mk
  conv => rhs; whnf
noncomputable abbrev kS307 : {b : Scope // b = fS (nthS (fB kT19.1) 16)} := by
  apply Subtype.mk
  conv => rhs; whnf
noncomputable abbrev kB314 : {b : List Stmt // b = fB (nthS (fB kT19.1) 17)} := by
  apply Subtype.mk
  conv => rhs; whnf
noncomputable abbrev kA314 : {b : Arguments // b = fA (nthS (fB kT19.1) 17)} := by
  apply Subtype.mk
  conv => rhs; whnf
noncomputable abbrev kS314 : {b : Scope // b = fS (nthS (fB kT19.1) 17)} := by
  apply Subtype.mk
  conv => rhs; whnf
noncomputable abbrev kB321 : {b : List Stmt // b = fB (nthS (fB kT19.1) 18)} := by
  apply Subtype.mk
  conv => rhs; whnf
noncomputable abbrev kA321 : {b : Arguments // b = fA (nthS (fB kT19.1) 18)} := by
  apply Subtype.mk
  conv => rhs; whnf
noncomputable abbrev kS321 : {b : Scope // b = fS (nthS (fB kT19.1) 18)} := by
  apply Subtype.mk
  conv => rhs; whnf
noncomputable abbrev kB342 : {b : List Stmt // b = fB (nthS (fB kT20.1) 0)} := by
  apply Subtype.mk
  conv => rhs; whnf
noncomputable abbrev kA342 : {b : Arguments // b = fA (nthS (fB kT20.1) 0)} := by
  apply Subtype.mk
  conv => rhs; whnf
noncomputable abbrev kS342 : {b : Scope // b = fS (nthS (fB kT20.1) 0)} := by
  apply Subtype.mk
  conv => rhs; whnf
noncomputable abbrev kB350 : {b : List Stmt // b = fB (nthS (fB kT20.1) 1)} := by
  apply Subtype.mk
  conv => rhs; whnf
noncomputable abbrev kA350 : {b : Arguments // b = fA (nthS (fB kT20.1) 1)} := by
  apply Subtype.mk
  conv => rhs; whnf
noncomputable abbrev kS350 : {b : Scope // b = fS (nthS (fB kT20.1) 1)} := by
  apply Subtype.mk
  conv => rhs; whnf
noncomputable abbrev kB357 : {b : List Stmt // b = fB (nthS (fB kT20.1) 2)} := by
  apply Subtype.mk
  conv => rhs; whnf
noncomputable abbrev kA357 : {b : Arguments // b = fA (nthS (fB kT20.1) 2)} := by
  apply Subtype.mk
  conv => rhs; whnf
noncomputable abbrev kS357 : {b : Scope // b = fS (nthS (fB kT20.1) 2)} := by
  apply Subtype.mk
  conv => rhs; whnf
noncomputable abbrev kB364 : {b : List Stmt // b = fB (nthS (fB kT20.1) 3)} := by
  apply Subtype.mk
  conv => rhs; whnf
noncomputable abbrev kA364 : {b : Arguments // b = fA (nthS (fB kT20.1) 3)} := by
  apply Subtype.mk
  conv => rhs; whnf
noncomputable abbrev kS364 : {b : Scope // b = fS (nthS (fB kT20.1) 3)} := by
  apply Subtype.mk
  conv => rhs; whnf
noncomputable abbrev kB371 : {b : List Stmt // b = fB (nthS (fB kT20.1) 4)} := by
  apply Subtype.mk
  conv => rhs; whnf
noncomputable abbrev kA371 : {b : Arguments // b = fA (nthS (fB kT20.1) 4)} := by
  apply Subtype.mk
  conv => rhs; whnf
noncomputable abbrev kS371 : {b : Scope // b = fS (nthS (fB kT20.1) 4)} := by
  apply Subtype.mk
  conv => rhs; whnf
noncomputable abbrev kB391 : {b : List Stmt // b = fB (nthS (fB kT31.1) 0)} := by
  apply Subtype.mk
  conv => rhs; whnf
noncomputable abbrev kA391 : {b : Arguments // b = fA (nthS (fB kT31.1) 0)} := by
  apply Subtype.mk
  conv => rhs; whnf
noncomputable abbrev kS391 : {b : Scope // b = fS (nthS (fB kT31.1) 0)} := by
  apply Subtype.mk
  conv => rhs; whnf
noncomputable abbrev kB398 : {b : List Stmt // b = fB (nthS (fB kT31.1) 1)} := by
  apply Subtype.mk
  conv => rhs; whnf
noncomputable abbrev kA398 : {b : Arguments // b = fA (nthS (fB kT31.1) 1)} := by
  apply Subtype.mk
  conv => rhs; whnf
noncomputable abbrev kS398 : {b : Scope // b = fS (nthS (fB kT31.1) 1)} := by
  apply Subtype.mk
  conv => rhs; whnf
noncomputable abbrev kB405 : {b : List Stmt // b = fB (nthS (fB kT31.1) 2)} := by
  apply Subtype.mk
  conv => rhs; whnf
noncomputable abbrev kA405 : {b : Arguments // b = fA (nthS (fB kT31.1) 2)} := by
  apply Subtype.mk
  conv => rhs; whnf
noncomputable abbrev kS405 : {b : Scope // b = fS (nthS (fB kT31.1) 2)} := by
  apply Subtype.mk
  conv => rhs; whnf
noncomputable abbrev kB412 : {b : List Stmt // b = fB (nthS (fB kT31.1) 3)} := by
  apply Subtype.mk
  conv => rhs; whnf
noncomputable abbrev kA412 : {b : Arguments // b = fA (nthS (fB kT31.1) 3)} := by
  apply Subtype.mk
  conv => rhs; whnf
noncomputable abbrev kS412 : {b : Scope // b = fS (nthS (fB kT31.1) 3)} := by
  apply Subtype.mk
  conv => rhs; whnf
noncomputable abbrev kB419 : {b : List Stmt // b = fB (nthS (fB kT31.1) 4)} := by
  apply Subtype.mk
  conv => rhs; whnf
noncomputable abbrev kA419 : {b : Arguments // b = fA (nthS (fB kT31.1) 4)} := by
  apply Subtype.mk
  conv => rhs; whnf
noncomputable abbrev kS419 : {b : Scope // b = fS (nthS (fB kT31.1) 4)} := by
  apply Subtype.mk
  conv => rhs; whnf
noncomputable abbrev kB426 : {b : List Stmt // b = fB (nthS (fB kT31.1) 5)} := by
  apply Subtype.mk
  conv => rhs; whnf
noncomputable abbrev kA426 : {b : Arguments // b = fA (nthS (fB kT31.1) 5)} := by
  apply Subtype.mk
  conv => rhs; whnf
noncomputable abbrev kS426 : {b : Scope // b = fS (nthS (fB kT31.1) 5)} := by
  apply Subtype.mk
  conv => rhs; whnf
noncomputable abbrev kB433 : {b : List Stmt // b = fB (nthS (fB kT31.1) 6)} := by
  apply Subtype.mk
  conv => rhs; whnf
noncomputable abbrev kA433 : {b : Arguments // b = fA (nthS (fB kT31.1) 6)} := by
  apply Subtype.mk
  conv => rhs; whnf
noncomputable abbrev kS433 : {b : Scope // b = fS (nthS (fB kT31.1) 6)} := by
  apply Subtype.mk
  conv => rhs; whnf
noncomputable abbrev kB440 : {b : List Stmt // b = fB (nthS (fB kT31.1) 7)} := by
  apply Subtype.mk
  conv => rhs; whnf
noncomputable abbrev kA440 : {b : Arguments // b = fA (nthS (fB kT31.1) 7)} := by
  apply Subtype.mk
  conv => rhs; whnf
noncomputable abbrev kS440 : {b : Scope // b = fS (nthS (fB kT31.1) 7)} := by
  apply Subtype.mk
  conv => rhs; whnf
noncomputable abbrev kB447 : {b : List Stmt // b = fB (nthS (fB kT31.1) 8)} := by
  apply Subtype.mk
  conv => rhs; whnf
noncomputable abbrev kA447 : {b : Arguments // b = fA (nthS (fB kT31.1) 8)} := by
  apply Subtype.mk
  conv => rhs; whnf
noncomputable abbrev kS447 : {b : Scope // b = fS (nthS (fB kT31.1) 8)} := by
  apply Subtype.mk
  conv => rhs; whnf
noncomputable abbrev kB454 : {b : List Stmt // b = fB (nthS (fB kT31.1) 9)} := by
  apply Subtype.mk
  conv => rhs; whnf
noncomputable abbrev kA454 : {b : Arguments // b = fA (nthS (fB kT31.1) 9)} := by
  apply Subtype.mk
  conv => rhs; whnf
noncomputable abbrev kS454 : {b : Scope // b = fS (nthS (fB kT31.1) 9)} := by
  apply Subtype.mk
  conv => rhs; whnf
noncomputable abbrev kB461 : {b : List Stmt // b = fB (nthS (fB kT31.1) 10)} := by
  apply Subtype.mk
  conv => rhs; whnf
noncomputable abbrev kA461 : {b : Arguments // b = fA (nthS (fB kT31.1) 10)} := by
  apply Subtype.mk
  conv => rhs; whnf
noncomputable abbrev kS461 : {b : Scope // b = fS (nthS (fB kT31.1) 10)} := by
  apply Subtype.mk
  conv => rhs; whnf
noncomputable abbrev kB468 : {b : List Stmt // b = fB (nthS (fB kT31.1) 11)} := by
  apply Subtype.mk
  conv => rhs; whnf
noncomputable abbrev kA468 : {b : Arguments // b = fA (nthS (fB kT31.1) 11)} := by
  apply Subtype.mk
  conv => rhs; whnf
noncomputable abbrev kS468 : {b : Scope // b = fS (nthS (fB kT31.1) 11)} := by
  apply Subtype.mk
  conv => rhs; whnf
noncomputable abbrev kB475 : {b : List Stmt // b = fB (nthS (fB kT31.1) 12)} := by
  apply Subtype.mk
  conv => rhs; whnf
noncomputable abbrev kA475 : {b : Arguments // b = fA (nthS (fB kT31.1) 12)} := by
  apply Subtype.mk
  conv => rhs; whnf
noncomputable abbrev kS475 : {b : Scope // b = fS (nthS (fB kT31.1) 12)} := by
  apply Subtype.mk
  conv => rhs; whnf
noncomputable abbrev kB482 : {b : List Stmt // b = fB (nthS (fB kT31.1) 13)} := by
  apply Subtype.mk
  conv => rhs; whnf
noncomputable abbrev kA482 : {b : Arguments // b = fA (nthS (fB kT31.1) 13)} := by
  apply Subtype.mk
  conv => rhs; whnf
noncomputable abbrev kS482 : {b : Scope // b = fS (nthS (fB kT31.1) 13)} := by
  apply Subtype.mk
  conv => rhs; whnf
noncomputable abbrev kB489 : {b : List Stmt // b = fB (nthS (fB kT31.1) 14)} := by
  apply Subtype.mk
  conv => rhs; whnf
noncomputable abbrev kA489 : {b : Arguments // b = fA (nthS (fB kT31.1) 14)} := by
  apply Subtype.mk
  conv => rhs; whnf
noncomputable abbrev kS489 : {b : Scope // b = fS (nthS (fB kT31.1) 14)} := by
  apply Subtype.mk
  conv => rhs; whnf
noncomputable abbrev kB496 : {b : List Stmt // b = fB (nthS (fB kT31.1) 15)} := by
  apply Subtype.mk
  conv => rhs; whnf
noncomputable abbrev kA496 : {b : Arguments // b = fA (nthS (fB kT31.1) 15)} := by
  apply Subtype.mk
  conv => rhs; whnf
noncomputable abbrev kS496 : {b : Scope // b = fS (nthS (fB kT31.1) 15)} := by
  apply Subtype.mk
  conv => rhs; whnf
noncomputable abbrev kB503 : {b : List Stmt // b = fB (nthS (fB kT31.1) 16)} := by
  apply Subtype.mk
  conv => rhs; whnf
noncomputable abbrev kA503 : {b : Arguments // b = fA (nthS (fB kT31.1) 16)} := by
  apply Subtype.mk
  conv => rhs; whnf
noncomputable abbrev kS503 : {b : Scope // b = fS (nthS (fB kT31.1) 16)} := by
  apply Subtype.mk
  conv => rhs; whnf
noncomputable abbrev kB510 : {b : List Stmt // b = fB (nthS (fB kT31.1) 17)} := by
  apply Subtype.mk
  conv => rhs; whnf
noncomputable abbrev kA510 : {b : Arguments // b = fA (nthS (fB kT31.1) 17)} := by
  apply Subtype.mk
  conv => rhs; whnf
noncomputable abbrev kS510 : {b : Scope // b = fS (nthS (fB kT31.1) 17)} := by
  apply Subtype.mk
  conv => rhs; whnf
noncomputable abbrev kB517 : {b : List Stmt // b = fB (nthS (fB kT31.1) 18)} := by
  apply Subtype.mk
  conv => rhs; whnf
noncomputable abbrev kA517 : {b : Arguments // b = fA (nthS (fB kT31.1) 18)} := by
  apply Subtype.mk
  conv => rhs; whnf
noncomputable abbrev kS517 : {b : Scope // b = fS (nthS (fB kT31.1) 18)} := by
  apply Subtype.mk
  conv => rhs; whnf
noncomputable abbrev kB524 : {b : List Stmt // b = fB (nthS (fB kT31.1) 19)} := by
  apply Subtype.mk
  conv => rhs; whnf
noncomputable abbrev kA524 : {b : Arguments // b = fA (nthS (fB kT31.1) 19)} := by
  apply Subtype.mk
  conv => rhs; whnf
noncomputable abbrev kS524 : {b : Scope // b = fS (nthS (fB kT31.1) 19)} := by
  apply Subtype.mk
  conv => rhs; whnf
noncomputable abbrev kB531 : {b : List Stmt // b = fB (nthS (fB kT31.1) 20)} := by
  apply Subtype.mk
  conv => rhs; whnf
noncomputable abbrev kA531 : {b : Arguments // b = fA (nthS (fB kT31.1) 20)} := by
  apply Subtype.mk
  conv => rhs; whnf
noncomputable abbrev kS531 : {b : Scope // b = fS (nthS (fB kT31.1) 20)} := by
  apply Subtype.mk
  conv => rhs; whnf
noncomputable abbrev kB545 : {b : List Stmt // b = fB kT33.1} := by
  apply Subtype.mk
  conv => rhs; whnf
noncomputable abbrev kA545 : {b : Arguments // b = fA kT33.1} := by
  apply Subtype.mk
  conv => rhs; whnf
noncomputable abbrev kS545 : {b : Scope // b = fS kT33.1} := by
  apply Subtype.mk
  conv => rhs; whnf
noncomputable abbrev kB552 : {b : List Stmt // b = fB kT34.1} := by
  apply Subtype.mk
  conv => rhs; whnf
noncomputable abbrev kA552 : {b : Arguments // b = fA kT34.1} := by
  apply Subtype.mk
  conv => rhs; whnf
noncomputable abbrev kS552 : {b : Scope // b = fS kT34.1} := by
  apply Subtype.mk
  conv => rhs; whnf
noncomputable abbrev kB557 : {b : List Stmt // b = fB kT35.1} := by
  apply Subtype.mk
  conv => rhs; whnf
noncomputable abbrev kA557 : {b : Arguments // b = fA kT35.1} := by
  apply Subtype.mk
  conv => rhs; whnf
noncomputable abbrev kS557 : {b : Scope // b = fS kT35.1} := by
  apply Subtype.mk
  conv => rhs; whnf
noncomputable abbrev kB562 : {b : List Stmt // b = fB kT36.1} := by
  apply Subtype.mk
  conv => rhs; whnf
noncomputable abbrev kA562 : {b : Arguments // b = fA kT36.1} := by
  apply Subtype.mk
  conv => rhs; whnf
noncomputable abbrev kS562 : {b : Scope // b = fS kT36.1} := by
  apply Subtype.mk
  conv => rhs; whnf
noncomputable abbrev kB569 : {b : List Stmt // b = fB kT37.1} := by
  apply Subtype.mk
  conv => rhs; whnf
noncomputable abbrev kA569 : {b : Arguments // b = fA kT37.1} := by
  apply Subtype.mk
  conv => rhs; whnf
noncomputable abbrev kS569 : {b : Scope // b = fS kT37.1} := by
  apply Subtype.mk
  conv => rhs; whnf
noncomputable def kK : Params → Frag := fun P =>
  (nat_lit 2, (Obj.mk Value.none none (Data.dict (List.toArray [(DictEntry.mk (PyData.keyHash P (Str.ofString "type.__subclasses__.Exception.0")) (Value.str (Str.ofString "type.__subclasses__.Exception.0") 212) (Value.int 31 0)), (DictEntry.mk (PyData.keyHash P (Str.ofString "type.__subclasses__.Exception.n")) (Value.str (Str.ofString "type.__subclasses__.Exception.n") 213) (Value.int 1 0))]) 2) (List.toArray []))) ::
  (nat_lit 3, (Obj.mk (Value.type "dict") none (Data.dict (List.toArray [(DictEntry.mk (PyData.keyHash P (Str.ofString "__name__")) (Value.str (Str.ofString "__name__") 165) (Value.str (Str.ofString "law_ok0027_01") 912)), (DictEntry.mk (PyData.keyHash P (Str.ofString "__doc__")) (Value.str (Str.ofString "__doc__") 166) Value.none), (DictEntry.mk (PyData.keyHash P (Str.ofString "__package__")) (Value.str (Str.ofString "__package__") 167) Value.none), (DictEntry.mk (PyData.keyHash P (Str.ofString "__loader__")) (Value.str (Str.ofString "__loader__") 168) (Value.builtin "__main__.__loader__#opaque")), (DictEntry.mk (PyData.keyHash P (Str.ofString "__spec__")) (Value.str (Str.ofString "__spec__") 169) Value.none), (DictEntry.mk (PyData.keyHash P (Str.ofString "__annotations__")) (Value.str (Str.ofString "__annotations__") 170) (Value.ref 6)), (DictEntry.mk (PyData.keyHash P (Str.ofString "__builtins__")) (Value.str (Str.ofString "__builtins__") 171) (Value.ref 4)), (DictEntry.mk (PyData.keyHash P (Str.ofString "__file__")) (Value.str (Str.ofString "__file__") 173) (Value.str (Str.ofString "/claim/cut.py") 172)), (DictEntry.mk (PyData.keyHash P (Str.ofString "__cached__")) (Value.str (Str.ofString "__cached__") 174) Value.none), (DictEntry.mk (PyData.keyHash P (Str.ofString "_wall")) (Value.str (Str.ofString "_wall") 193) (Value.ref 21)), (DictEntry.mk (PyData.keyHash P (Str.ofString "ClausemillError")) (Value.str (Str.ofString "ClausemillError") 215) (Value.ref 31)), (DictEntry.mk (PyData.keyHash P (Str.ofString "PrologError")) (Value.str (Str.ofString "PrologError") 240) (Value.ref 51)), (DictEntry.mk (PyData.keyHash P (Str.ofString "A_SYSTEM")) (Value.str (Str.ofString "A_SYSTEM") 242) (Value.int 25 241)), (DictEntry.mk (PyData.keyHash P (Str.ofString "F_ERROR")) (Value.str (Str.ofString "F_ERROR") 244) (Value.int 16 243)), (DictEntry.mk (PyData.keyHash P (Str.ofString "fixed_atoms")) (Value.str (Str.ofString "fixed_atoms") 250) (Value.ref 60)), (DictEntry.mk (PyData.keyHash P (Str.ofString "fixed_functors")) (Value.str (Str.ofString "fixed_functors") 256) (Value.ref 67)), (DictEntry.mk (PyData.keyHash P (Str.ofString "Symbols")) (Value.str (Str.ofString "Symbols") 375) (Value.ref 154)), (DictEntry.mk (PyData.keyHash P (Str.ofString "system_error")) (Value.str (Str.ofString "system_error") 384) (Value.ref 165)), (DictEntry.mk (PyData.keyHash P (Str.ofString "formal_of")) (Value.str (Str.ofString "formal_of") 395) (Value.ref 172)), (DictEntry.mk (PyData.keyHash P (Str.ofString "resource_error")) (Value.str (Str.ofString "resource_error") 403) (Value.ref 179)), (DictEntry.mk (PyData.keyHash P (Str.ofString "REF")) (Value.str (Str.ofString "REF") 407) (Value.int 0 406)), (DictEntry.mk (PyData.keyHash P (Str.ofString "SRF")) (Value.str (Str.ofString "SRF") 409) (Value.int 1 408)), (DictEntry.mk (PyData.keyHash P (Str.ofString "LIS")) (Value.str (Str.ofString "LIS") 411) (Value.int 3 410)), (DictEntry.mk (PyData.keyHash P (Str.ofString "INT")) (Value.str (Str.ofString "INT") 413) (Value.int 5 412)), (DictEntry.mk (PyData.keyHash P (Str.ofString "VOID")) (Value.str (Str.ofString "VOID") 415) (Value.ref 180)), (DictEntry.mk (PyData.keyHash P (Str.ofString "Cells")) (Value.str (Str.ofString "Cells") 603) (Value.ref 324)), (DictEntry.mk (PyData.keyHash P (Str.ofString "Store")) (Value.str (Str.ofString "Store") 663) (Value.ref 374)), (DictEntry.mk (PyData.keyHash P (Str.ofString "READ")) (Value.str (Str.ofString "READ") 667) (Value.str (Str.ofString "read") 666)), (DictEntry.mk (PyData.keyHash P (Str.ofString "AT_E")) (Value.str (Str.ofString "AT_E") 669) (Value.int 1 668)), (DictEntry.mk (PyData.keyHash P (Str.ofString "AT_CP")) (Value.str (Str.ofString "AT_CP") 671) (Value.int 2 670)), (DictEntry.mk (PyData.keyHash P (Str.ofString "AT_PREVIOUS")) (Value.str (Str.ofString "AT_PREVIOUS") 673) (Value.int 3 672)), (DictEntry.mk (PyData.keyHash P (Str.ofString "AT_ALTERNATIVE")) (Value.str (Str.ofString "AT_ALTERNATIVE") 675) (Value.int 4 674)), (DictEntry.mk (PyData.keyHash P (Str.ofString "AT_TRAIL")) (Value.str (Str.ofString "AT_TRAIL") 677) (Value.int 5 676)), (DictEntry.mk (PyData.keyHash P (Str.ofString "AT_HEAP")) (Value.str (Str.ofString "AT_HEAP") 679) (Value.int 6 678)), (DictEntry.mk (PyData.keyHash P (Str.ofString "AT_B0")) (Value.str (Str.ofString "AT_B0") 681) (Value.int 7 680)), (DictEntry.mk (PyData.keyHash P (Str.ofString "EXTRA")) (Value.str (Str.ofString "EXTRA") 683) (Value.int 8 682)), (DictEntry.mk (PyData.keyHash P (Str.ofString "Areas")) (Value.str (Str.ofString "Areas") 911) (Value.ref 534)), (DictEntry.mk (PyData.keyHash P (Str.ofString "_law_digits")) (Value.str (Str.ofString "_law_digits") 924) (Value.ref 545)), (DictEntry.mk (PyData.keyHash P (Str.ofString "_law_choose")) (Value.str (Str.ofString "_law_choose") 932) (Value.ref 552)), (DictEntry.mk (PyData.keyHash P (Str.ofString "_law_row_stands")) (Value.str (Str.ofString "_law_row_stands") 938) (Value.ref 557)), (DictEntry.mk (PyData.keyHash P (Str.ofString "_law_stands")) (Value.str (Str.ofString "_law_stands") 944) (Value.ref 562)), (DictEntry.mk (PyData.keyHash P (Str.ofString "law")) (Value.str (Str.ofString "law") 965) (Value.ref 569))]) 42) (List.toArray []))) ::
  (nat_lit 15, (Obj.mk (Value.type "tuple") none (Data.seq (List.toArray []) 0) (List.toArray []))) ::
  (nat_lit 17, (Obj.mk (Value.type "tuple") none (Data.seq (List.toArray [(Value.str (Str.ofString "k") 190)]) 0) (List.toArray []))) ::
  (nat_lit 18, (Obj.mk (Value.type "tuple") none (Data.seq (List.toArray []) 0) (List.toArray []))) ::
  (nat_lit 20, (Obj.mk (Value.type "code") none (Data.fields (List.toArray [(Value.str (Str.ofString "_wall") 187), (Value.str (Str.ofString "_wall") 188), (Value.str (Str.ofString "/claim/cut.py") 189), (Value.int 1 0), (Value.int 1 0), (Value.int 0 0), (Value.int 0 0), (Value.int 3 0), (Value.ref 15), (Value.bool Bool.true), (Value.int 181 0), (Value.ref 16), Value.none, (Value.ref 17), (Value.ref 18), (Value.ref 19), (Value.int 191 0), (Value.int 1 0), (Value.str (Str.ofString "/claim/cut.py") 192)])) (List.toArray []))) ::
  (nat_lit 21, (Obj.mk (Value.type "function") none (Data.func (FuncData.mk (Str.ofString "_wall") (Str.ofString "_wall") kA21.1 (FuncBody.stmts kB21.1) kS21.1 3 [] Value.none Value.none Value.none (Value.str (Str.ofString "__main__") 164) none (Value.ref 20) Value.none 0)) (List.toArray []))) ::
  (nat_lit 22, (Obj.mk (Value.type "tuple") none (Data.seq (List.toArray [(Value.type "Exception")]) 0) (List.toArray []))) ::
  (nat_lit 29, (Obj.mk (Value.type "tuple") none (Data.seq (List.toArray []) 0) (List.toArray []))) ::
  (nat_lit 30, (Obj.mk (Value.type "dict") none (Data.dict (List.toArray [(DictEntry.mk (PyData.keyHash P (Str.ofString "__module__")) (Value.str (Str.ofString "__module__") 203) (Value.str (Str.ofString "clausemill.symbols") 194)), (DictEntry.mk (PyData.keyHash P (Str.ofString "__firstlineno__")) (Value.str (Str.ofString "__firstlineno__") 207) (Value.int 5 206)), (DictEntry.mk (PyData.keyHash P (Str.ofString "__static_attributes__")) (Value.str (Str.ofString "__static_attributes__") 208) (Value.ref 29)), (DictEntry.mk (PyData.keyHash P (Str.ofString "__weakref__")) (Value.str (Str.ofString "__weakref__") 210) (Value.ref 32)), (DictEntry.mk (PyData.keyHash P (Str.ofString "__doc__")) (Value.str (Str.ofString "__doc__") 211) Value.none)]) 3) (List.toArray []))) ::
  (nat_lit 31, (Obj.mk (Value.type "type") none (Data.cls (ClassData.mk (Str.ofString "ClausemillError") [(Value.type "Exception")] [(Value.ref 31), (Value.type "Exception"), (Value.type "BaseException"), (Value.type "object")] 30 (Str.ofString "ClausemillError") Bool.true [] [(Value.ref 51)] Bool.false none Bool.false)) (List.toArray [(some (Value.ref 22)), none, (some (Value.str (Str.ofString "ClausemillError") 196)), (some (Value.str (Str.ofString "ClausemillError") 204)), (some (Value.builtin "Exception.__new__")), (some (Value.bool Bool.true))]))) ::
  (nat_lit 32, (Obj.mk (Value.type "getset_descriptor") none (Data.fields (List.toArray [(Value.str (Str.ofString "__weakref__") 209), (Value.ref 31), (Value.builtin "ExceptionGroup.__weakref__"), Value.none])) (List.toArray []))) ::
  (nat_lit 35, (Obj.mk (Value.type "tuple") none (Data.seq (List.toArray [(Value.ref 31)]) 0) (List.toArray []))) ::
  (nat_lit 42, (Obj.mk (Value.type "tuple") none (Data.seq (List.toArray []) 0) (List.toArray []))) ::
  (nat_lit 44, (Obj.mk (Value.type "tuple") none (Data.seq (List.toArray [(Value.str (Str.ofString "self") 231), (Value.str (Str.ofString "ball") 232)]) 0) (List.toArray []))) ::
  (nat_lit 45, (Obj.mk (Value.type "tuple") none (Data.seq (List.toArray []) 0) (List.toArray []))) ::
  (nat_lit 47, (Obj.mk (Value.type "code") none (Data.fields (List.toArray [(Value.str (Str.ofString "__init__") 228), (Value.str (Str.ofString "PrologError.__init__") 229), (Value.str (Str.ofString "/claim/cut.py") 230), (Value.int 9 0), (Value.int 2 0), (Value.int 0 0), (Value.int 0 0), (Value.int 3 0), (Value.ref 42), (Value.bool Bool.true), (Value.int 181 0), (Value.ref 43), Value.none, (Value.ref 44), (Value.ref 45), (Value.ref 46), (Value.int 233 0), (Value.int 9 0), (Value.str (Str.ofString "/claim/cut.py") 234)])) (List.toArray []))) ::
  (nat_lit 48, (Obj.mk (Value.type "function") none (Data.func (FuncData.mk (Str.ofString "__init__") (Str.ofString "PrologError.__init__") kA48.1 (FuncBody.stmts kB48.1) kS48.1 3 [] Value.none Value.none Value.none (Value.str (Str.ofString "clausemill.symbols") 194) none (Value.ref 47) Value.none 0)) (List.toArray []))) ::
  (nat_lit 49, (Obj.mk (Value.type "tuple") none (Data.seq (List.toArray [(Value.str (Str.ofString "ball") 236)]) 0) (List.toArray []))) ::
  (nat_lit 50, (Obj.mk (Value.type "dict") none (Data.dict (List.toArray [(DictEntry.mk (PyData.keyHash P (Str.ofString "__module__")) (Value.str (Str.ofString "__module__") 223) (Value.str (Str.ofString "clausemill.symbols") 194)), (DictEntry.mk (PyData.keyHash P (Str.ofString "__firstlineno__")) (Value.str (Str.ofString "__firstlineno__") 227) (Value.int 7 226)), (DictEntry.mk (PyData.keyHash P (Str.ofString "__init__")) (Value.str (Str.ofString "__init__") 235) (Value.ref 48)), (DictEntry.mk (PyData.keyHash P (Str.ofString "__static_attributes__")) (Value.str (Str.ofString "__static_attributes__") 237) (Value.ref 49)), (DictEntry.mk (PyData.keyHash P (Str.ofString "__doc__")) (Value.str (Str.ofString "__doc__") 238) Value.none)]) 2) (List.toArray []))) ::
  (nat_lit 51, (Obj.mk (Value.type "type") none (Data.cls (ClassData.mk (Str.ofString "PrologError") [(Value.ref 31)] [(Value.ref 51), (Value.ref 31), (Value.type "Exception"), (Value.type "BaseException"), (Value.type "object")] 50 (Str.ofString "PrologError") Bool.true [] [] Bool.false none Bool.false)) (List.toArray [(some (Value.ref 35)), none, (some (Value.str (Str.ofString "PrologError") 216)), (some (Value.str (Str.ofString "PrologError") 224)), (some (Value.builtin "Exception.__new__")), (some (Value.bool Bool.true))]))) ::
  (nat_lit 54, (Obj.mk (Value.type "tuple") none (Data.seq (List.toArray []) 0) (List.toArray []))) ::
  (nat_lit 56, (Obj.mk (Value.type "tuple") none (Data.seq (List.toArray []) 0) (List.toArray []))) ::
  (nat_lit 57, (Obj.mk (Value.type "tuple") none (Data.seq (List.toArray []) 0) (List.toArray []))) ::
  (nat_lit 59, (Obj.mk (Value.type "code") none (Data.fields (List.toArray [(Value.str (Str.ofString "fixed_atoms") 245), (Value.str (Str.ofString "fixed_atoms") 246), (Value.str (Str.ofString "/claim/cut.py") 247), (Value.int 13 0), (Value.int 0 0), (Value.int 0 0), (Value.int 0 0), (Value.int 3 0), (Value.ref 54), (Value.bool Bool.true), (Value.int 181 0), (Value.ref 55), Value.none, (Value.ref 56), (Value.ref 57), (Value.ref 58), (Value.int 248 0), (Value.int 13 0), (Value.str (Str.ofString "/claim/cut.py") 249)])) (List.toArray []))) ::
  (nat_lit 60, (Obj.mk (Value.type "function") none (Data.func (FuncData.mk (Str.ofString "fixed_atoms") (Str.ofString "fixed_atoms") kA60.1 (FuncBody.stmts kB60.1) kS60.1 3 [] Value.none Value.none Value.none (Value.str (Str.ofString "clausemill.symbols") 194) none (Value.ref 59) Value.none 0)) (List.toArray []))) ::
  (nat_lit 61, (Obj.mk (Value.type "tuple") none (Data.seq (List.toArray []) 0) (List.toArray []))) ::
  (nat_lit 63, (Obj.mk (Value.type "tuple") none (Data.seq (List.toArray []) 0) (List.toArray []))) ::
  (nat_lit 64, (Obj.mk (Value.type "tuple") none (Data.seq (List.toArray []) 0) (List.toArray []))) ::
  (nat_lit 66, (Obj.mk (Value.type "code") none (Data.fields (List.toArray [(Value.str (Str.ofString "fixed_functors") 251), (Value.str (Str.ofString "fixed_functors") 252), (Value.str (Str.ofString "/claim/cut.py") 253), (Value.int 15 0), (Value.int 0 0), (Value.int 0 0), (Value.int 0 0), (Value.int 3 0), (Value.ref 61), (Value.bool Bool.true), (Value.int 181 0), (Value.ref 62), Value.none, (Value.ref 63), (Value.ref 64), (Value.ref 65), (Value.int 254 0), (Value.int 15 0), (Value.str (Str.ofString "/claim/cut.py") 255)])) (List.toArray []))) ::
  (nat_lit 67, (Obj.mk (Value.type "function") none (Data.func (FuncData.mk (Str.ofString "fixed_functors") (Str.ofString "fixed_functors") kA67.1 (FuncBody.stmts kB67.1) kS67.1 3 [] Value.none Value.none Value.none (Value.str (Str.ofString "clausemill.symbols") 194) none (Value.ref 66) Value.none 0)) (List.toArray []))) ::
  (nat_lit 75, (Obj.mk (Value.type "tuple") none (Data.seq (List.toArray []) 0) (List.toArray []))) ::
  (nat_lit 77, (Obj.mk (Value.type "tuple") none (Data.seq (List.toArray [(Value.str (Str.ofString "self") 272), (Value.str (Str.ofString "text") 273), (Value.str (Str.ofString "row") 274)]) 0) (List.toArray []))) ::
  (nat_lit 78, (Obj.mk (Value.type "tuple") none (Data.seq (List.toArray []) 0) (List.toArray []))) ::
  (nat_lit 80, (Obj.mk (Value.type "code") none (Data.fields (List.toArray [(Value.str (Str.ofString "__init__") 269), (Value.str (Str.ofString "Symbols.__init__") 270), (Value.str (Str.ofString "/claim/cut.py") 271), (Value.int 19 0), (Value.int 1 0), (Value.int 0 0), (Value.int 0 0), (Value.int 3 0), (Value.ref 75), (Value.bool Bool.true), (Value.int 181 0), (Value.ref 76), Value.none, (Value.ref 77), (Value.ref 78), (Value.ref 79), (Value.int 275 0), (Value.int 19 0), (Value.str (Str.ofString "/claim/cut.py") 276)])) (List.toArray []))) ::
  (nat_lit 81, (Obj.mk (Value.type "function") none (Data.func (FuncData.mk (Str.ofString "__init__") (Str.ofString "Symbols.__init__") kA81.1 (FuncBody.stmts kB81.1) kS81.1 3 [] Value.none Value.none Value.none (Value.str (Str.ofString "clausemill.symbols") 194) none (Value.ref 80) Value.none 0)) (List.toArray []))) ::
  (nat_lit 82, (Obj.mk (Value.type "tuple") none (Data.seq (List.toArray []) 0) (List.toArray []))) ::
  (nat_lit 84, (Obj.mk (Value.type "tuple") none (Data.seq (List.toArray [(Value.str (Str.ofString "self") 281), (Value.str (Str.ofString "text") 282), (Value.str (Str.ofString "found") 283), (Value.str (Str.ofString "number") 284)]) 0) (List.toArray []))) ::
  (nat_lit 85, (Obj.mk (Value.type "tuple") none (Data.seq (List.toArray []) 0) (List.toArray []))) ::
  (nat_lit 87, (Obj.mk (Value.type "code") none (Data.fields (List.toArray [(Value.str (Str.ofString "atom") 278), (Value.str (Str.ofString "Symbols.atom") 279), (Value.str (Str.ofString "/claim/cut.py") 280), (Value.int 29 0), (Value.int 2 0), (Value.int 0 0), (Value.int 0 0), (Value.int 3 0), (Value.ref 82), (Value.bool Bool.true), (Value.int 181 0), (Value.ref 83), Value.none, (Value.ref 84), (Value.ref 85), (Value.ref 86), (Value.int 285 0), (Value.int 29 0), (Value.str (Str.ofString "/claim/cut.py") 286)])) (List.toArray []))) ::
  (nat_lit 88, (Obj.mk (Value.type "function") none (Data.func (FuncData.mk (Str.ofString "atom") (Str.ofString "Symbols.atom") kA88.1 (FuncBody.stmts kB88.1) kS88.1 3 [] Value.none Value.none Value.none (Value.str (Str.ofString "clausemill.symbols") 194) none (Value.ref 87) Value.none 0)) (List.toArray []))) ::
  (nat_lit 89, (Obj.mk (Value.type "tuple") none (Data.seq (List.toArray []) 0) (List.toArray []))) ::
  (nat_lit 91, (Obj.mk (Value.type "tuple") none (Data.seq (List.toArray [(Value.str (Str.ofString "self") 291), (Value.str (Str.ofString "number") 292)]) 0) (List.toArray []))) ::
  (nat_lit 92, (Obj.mk (Value.type "tuple") none (Data.seq (List.toArray []) 0) (List.toArray []))) ::
  (nat_lit 94, (Obj.mk (Value.type "code") none (Data.fields (List.toArray [(Value.str (Str.ofString "text") 288), (Value.str (Str.ofString "Symbols.text") 289), (Value.str (Str.ofString "/claim/cut.py") 290), (Value.int 38 0), (Value.int 2 0), (Value.int 0 0), (Value.int 0 0), (Value.int 3 0), (Value.ref 89), (Value.bool Bool.true), (Value.int 181 0), (Value.ref 90), Value.none, (Value.ref 91), (Value.ref 92), (Value.ref 93), (Value.int 293 0), (Value.int 38 0), (Value.str (Str.ofString "/claim/cut.py") 294)])) (List.toArray []))) ::
  (nat_lit 95, (Obj.mk (Value.type "function") none (Data.func (FuncData.mk (Str.ofString "text") (Str.ofString "Symbols.text") kA95.1 (FuncBody.stmts kB95.1) kS95.1 3 [] Value.none Value.none Value.none (Value.str (Str.ofString "clausemill.symbols") 194) none (Value.ref 94) Value.none 0)) (List.toArray []))) ::
  (nat_lit 96, (Obj.mk (Value.type "tuple") none (Data.seq (List.toArray []) 0) (List.toArray []))) ::
  (nat_lit 98, (Obj.mk (Value.type "tuple") none (Data.seq (List.toArray [(Value.str (Str.ofString "self") 299), (Value.str (Str.ofString "atom") 300), (Value.str (Str.ofString "arity") 301), (Value.str (Str.ofString "key") 302), (Value.str (Str.ofString "found") 303), (Value.str (Str.ofString "number") 304)]) 0) (List.toArray []))) ::
  (nat_lit 99, (Obj.mk (Value.type "tuple") none (Data.seq (List.toArray []) 0) (List.toArray []))) ::
  (nat_lit 101, (Obj.mk (Value.type "code") none (Data.fields (List.toArray [(Value.str (Str.ofString "functor") 296), (Value.str (Str.ofString "Symbols.functor") 297), (Value.str (Str.ofString "/claim/cut.py") 298), (Value.int 41 0), (Value.int 3 0), (Value.int 0 0), (Value.int 0 0), (Value.int 3 0), (Value.ref 96), (Value.bool Bool.true), (Value.int 181 0), (Value.ref 97), Value.none, (Value.ref 98), (Value.ref 99), (Value.ref 100), (Value.int 305 0), (Value.int 41 0), (Value.str (Str.ofString "/claim/cut.py") 306)])) (List.toArray []))) ::
  (nat_lit 102, (Obj.mk (Value.type "function") none (Data.func (FuncData.mk (Str.ofString "functor") (Str.ofString "Symbols.functor") kA102.1 (FuncBody.stmts kB102.1) kS102.1 3 [] Value.none Value.none Value.none (Value.str (Str.ofString "clausemill.symbols") 194) none (Value.ref 101) Value.none 0)) (List.toArray []))) ::
  (nat_lit 103, (Obj.mk (Value.type "tuple") none (Data.seq (List.toArray []) 0) (List.toArray []))) ::
  (nat_lit 105, (Obj.mk (Value.type "tuple") none (Data.seq (List.toArray [(Value.str (Str.ofString "self") 311), (Value.str (Str.ofString "text") 312), (Value.str (Str.ofString "arity") 313)]) 0) (List.toArray []))) ::
  (nat_lit 106, (Obj.mk (Value.type "tuple") none (Data.seq (List.toArray []) 0) (List.toArray []))) ::
  (nat_lit 108, (Obj.mk (Value.type "code") none (Data.fields (List.toArray [(Value.str (Str.ofString "func") 308), (Value.str (Str.ofString "Symbols.func") 309), (Value.str (Str.ofString "/claim/cut.py") 310), (Value.int 51 0), (Value.int 3 0), (Value.int 0 0), (Value.int 0 0), (Value.int 3 0), (Value.ref 103), (Value.bool Bool.true), (Value.int 181 0), (Value.ref 104), Value.none, (Value.ref 105), (Value.ref 106), (Value.ref 107), (Value.int 314 0), (Value.int 51 0), (Value.str (Str.ofString "/claim/cut.py") 315)])) (List.toArray []))) ::
  (nat_lit 109, (Obj.mk (Value.type "function") none (Data.func (FuncData.mk (Str.ofString "func") (Str.ofString "Symbols.func") kA109.1 (FuncBody.stmts kB109.1) kS109.1 3 [] Value.none Value.none Value.none (Value.str (Str.ofString "clausemill.symbols") 194) none (Value.ref 108) Value.none 0)) (List.toArray []))) ::
  (nat_lit 110, (Obj.mk (Value.type "tuple") none (Data.seq (List.toArray []) 0) (List.toArray []))) ::
  (nat_lit 112, (Obj.mk (Value.type "tuple") none (Data.seq (List.toArray [(Value.str (Str.ofString "self") 320), (Value.str (Str.ofString "functor") 321)]) 0) (List.toArray []))) ::
  (nat_lit 113, (Obj.mk (Value.type "tuple") none (Data.seq (List.toArray []) 0) (List.toArray []))) ::
  (nat_lit 115, (Obj.mk (Value.type "code") none (Data.fields (List.toArray [(Value.str (Str.ofString "name") 317), (Value.str (Str.ofString "Symbols.name") 318), (Value.str (Str.ofString "/claim/cut.py") 319), (Value.int 54 0), (Value.int 2 0), (Value.int 0 0), (Value.int 0 0), (Value.int 3 0), (Value.ref 110), (Value.bool Bool.true), (Value.int 181 0), (Value.ref 111), Value.none, (Value.ref 112), (Value.ref 113), (Value.ref 114), (Value.int 322 0), (Value.int 54 0), (Value.str (Str.ofString "/claim/cut.py") 323)])) (List.toArray []))) ::
  (nat_lit 116, (Obj.mk (Value.type "function") none (Data.func (FuncData.mk (Str.ofString "name") (Str.ofString "Symbols.name") kA116.1 (FuncBody.stmts kB116.1) kS116.1 3 [] Value.none Value.none Value.none (Value.str (Str.ofString "clausemill.symbols") 194) none (Value.ref 115) Value.none 0)) (List.toArray []))) ::
  (nat_lit 117, (Obj.mk (Value.type "tuple") none (Data.seq (List.toArray []) 0) (List.toArray []))) ::
  (nat_lit 119, (Obj.mk (Value.type "tuple") none (Data.seq (List.toArray [(Value.str (Str.ofString "self") 328), (Value.str (Str.ofString "functor") 329)]) 0) (List.toArray []))) ::
  (nat_lit 120, (Obj.mk (Value.type "tuple") none (Data.seq (List.toArray []) 0) (List.toArray []))) ::
  (nat_lit 122, (Obj.mk (Value.type "code") none (Data.fields (List.toArray [(Value.str (Str.ofString "arity") 325), (Value.str (Str.ofString "Symbols.arity") 326), (Value.str (Str.ofString "/claim/cut.py") 327), (Value.int 57 0), (Value.int 2 0), (Value.int 0 0), (Value.int 0 0), (Value.int 3 0), (Value.ref 117), (Value.bool Bool.true), (Value.int 181 0), (Value.ref 118), Value.none, (Value.ref 119), (Value.ref 120), (Value.ref 121), (Value.int 330 0), (Value.int 57 0), (Value.str (Str.ofString "/claim/cut.py") 331)])) (List.toArray []))) ::
  (nat_lit 123, (Obj.mk (Value.type "function") none (Data.func (FuncData.mk (Str.ofString "arity") (Str.ofString "Symbols.arity") kA123.1 (FuncBody.stmts kB123.1) kS123.1 3 [] Value.none Value.none Value.none (Value.str (Str.ofString "clausemill.symbols") 194) none (Value.ref 122) Value.none 0)) (List.toArray []))) ::
  (nat_lit 124, (Obj.mk (Value.type "tuple") none (Data.seq (List.toArray []) 0) (List.toArray []))) ::
  (nat_lit 126, (Obj.mk (Value.type "tuple") none (Data.seq (List.toArray [(Value.str (Str.ofString "self") 336), (Value.str (Str.ofString "functor") 337)]) 0) (List.toArray []))) ::
  (nat_lit 127, (Obj.mk (Value.type "tuple") none (Data.seq (List.toArray []) 0) (List.toArray []))) ::
  (nat_lit 129, (Obj.mk (Value.type "code") none (Data.fields (List.toArray [(Value.str (Str.ofString "label") 333), (Value.str (Str.ofString "Symbols.label") 334), (Value.str (Str.ofString "/claim/cut.py") 335), (Value.int 60 0), (Value.int 2 0), (Value.int 0 0), (Value.int 0 0), (Value.int 3 0), (Value.ref 124), (Value.bool Bool.true), (Value.int 181 0), (Value.ref 125), Value.none, (Value.ref 126), (Value.ref 127), (Value.ref 128), (Value.int 338 0), (Value.int 60 0), (Value.str (Str.ofString "/claim/cut.py") 339)])) (List.toArray []))) ::
  (nat_lit 130, (Obj.mk (Value.type "function") none (Data.func (FuncData.mk (Str.ofString "label") (Str.ofString "Symbols.label") kA130.1 (FuncBody.stmts kB130.1) kS130.1 3 [] Value.none Value.none Value.none (Value.str (Str.ofString "clausemill.symbols") 194) none (Value.ref 129) Value.none 0)) (List.toArray []))) ::
  (nat_lit 131, (Obj.mk (Value.type "tuple") none (Data.seq (List.toArray []) 0) (List.toArray []))) ::
  (nat_lit 133, (Obj.mk (Value.type "tuple") none (Data.seq (List.toArray [(Value.str (Str.ofString "self") 344)]) 0) (List.toArray []))) ::
  (nat_lit 134, (Obj.mk (Value.type "tuple") none (Data.seq (List.toArray []) 0) (List.toArray []))) ::
  (nat_lit 136, (Obj.mk (Value.type "code") none (Data.fields (List.toArray [(Value.str (Str.ofString "count") 341), (Value.str (Str.ofString "Symbols.count") 342), (Value.str (Str.ofString "/claim/cut.py") 343), (Value.int 63 0), (Value.int 1 0), (Value.int 0 0), (Value.int 0 0), (Value.int 3 0), (Value.ref 131), (Value.bool Bool.true), (Value.int 181 0), (Value.ref 132), Value.none, (Value.ref 133), (Value.ref 134), (Value.ref 135), (Value.int 345 0), (Value.int 63 0), (Value.str (Str.ofString "/claim/cut.py") 346)])) (List.toArray []))) ::
  (nat_lit 137, (Obj.mk (Value.type "function") none (Data.func (FuncData.mk (Str.ofString "count") (Str.ofString "Symbols.count") kA137.1 (FuncBody.stmts kB137.1) kS137.1 3 [] Value.none Value.none Value.none (Value.str (Str.ofString "clausemill.symbols") 194) none (Value.ref 136) Value.none 0)) (List.toArray []))) ::
  (nat_lit 138, (Obj.mk (Value.type "tuple") none (Data.seq (List.toArray []) 0) (List.toArray []))) ::
  (nat_lit 140, (Obj.mk (Value.type "tuple") none (Data.seq (List.toArray [(Value.str (Str.ofString "self") 351)]) 0) (List.toArray []))) ::
  (nat_lit 141, (Obj.mk (Value.type "tuple") none (Data.seq (List.toArray []) 0) (List.toArray []))) ::
  (nat_lit 143, (Obj.mk (Value.type "code") none (Data.fields (List.toArray [(Value.str (Str.ofString "functor_count") 348), (Value.str (Str.ofString "Symbols.functor_count") 349), (Value.str (Str.ofString "/claim/cut.py") 350), (Value.int 66 0), (Value.int 1 0), (Value.int 0 0), (Value.int 0 0), (Value.int 3 0), (Value.ref 138), (Value.bool Bool.true), (Value.int 181 0), (Value.ref 139), Value.none, (Value.ref 140), (Value.ref 141), (Value.ref 142), (Value.int 352 0), (Value.int 66 0), (Value.str (Str.ofString "/claim/cut.py") 353)])) (List.toArray []))) ::
  (nat_lit 144, (Obj.mk (Value.type "function") none (Data.func (FuncData.mk (Str.ofString "functor_count") (Str.ofString "Symbols.functor_count") kA144.1 (FuncBody.stmts kB144.1) kS144.1 3 [] Value.none Value.none Value.none (Value.str (Str.ofString "clausemill.symbols") 194) none (Value.ref 143) Value.none 0)) (List.toArray []))) ::
  (nat_lit 145, (Obj.mk (Value.type "tuple") none (Data.seq (List.toArray []) 0) (List.toArray []))) ::
  (nat_lit 147, (Obj.mk (Value.type "tuple") none (Data.seq (List.toArray [(Value.str (Str.ofString "self") 358), (Value.str (Str.ofString "text") 359), (Value.str (Str.ofString "arity") 360)]) 0) (List.toArray []))) ::
  (nat_lit 148, (Obj.mk (Value.type "tuple") none (Data.seq (List.toArray []) 0) (List.toArray []))) ::
  (nat_lit 150, (Obj.mk (Value.type "code") none (Data.fields (List.toArray [(Value.str (Str.ofString "known") 355), (Value.str (Str.ofString "Symbols.known") 356), (Value.str (Str.ofString "/claim/cut.py") 357), (Value.int 69 0), (Value.int 3 0), (Value.int 0 0), (Value.int 0 0), (Value.int 3 0), (Value.ref 145), (Value.bool Bool.true), (Value.int 181 0), (Value.ref 146), Value.none, (Value.ref 147), (Value.ref 148), (Value.ref 149), (Value.int 361 0), (Value.int 69 0), (Value.str (Str.ofString "/claim/cut.py") 362)])) (List.toArray []))) ::
  (nat_lit 151, (Obj.mk (Value.type "function") none (Data.func (FuncData.mk (Str.ofString "known") (Str.ofString "Symbols.known") kA151.1 (FuncBody.stmts kB151.1) kS151.1 3 [] Value.none Value.none Value.none (Value.str (Str.ofString "clausemill.symbols") 194) none (Value.ref 150) Value.none 0)) (List.toArray []))) ::
  (nat_lit 152, (Obj.mk (Value.type "tuple") none (Data.seq (List.toArray [(Value.str (Str.ofString "atom_numbers") 364), (Value.str (Str.ofString "functor_numbers") 365), (Value.str (Str.ofString "functors") 366), (Value.str (Str.ofString "texts") 367)]) 0) (List.toArray []))) ::
  (nat_lit 153, (Obj.mk (Value.type "dict") none (Data.dict (List.toArray [(DictEntry.mk (PyData.keyHash P (Str.ofString "__module__")) (Value.str (Str.ofString "__module__") 264) (Value.str (Str.ofString "clausemill.symbols") 194)), (DictEntry.mk (PyData.keyHash P (Str.ofString "__firstlineno__")) (Value.str (Str.ofString "__firstlineno__") 268) (Value.int 17 267)), (DictEntry.mk (PyData.keyHash P (Str.ofString "__init__")) (Value.str (Str.ofString "__init__") 277) (Value.ref 81)), (DictEntry.mk (PyData.keyHash P (Str.ofString "atom")) (Value.str (Str.ofString "atom") 287) (Value.ref 88)), (DictEntry.mk (PyData.keyHash P (Str.ofString "text")) (Value.str (Str.ofString "text") 295) (Value.ref 95)), (DictEntry.mk (PyData.keyHash P (Str.ofString "functor")) (Value.str (Str.ofString "functor") 307) (Value.ref 102)), (DictEntry.mk (PyData.keyHash P (Str.ofString "func")) (Value.str (Str.ofString "func") 316) (Value.ref 109)), (DictEntry.mk (PyData.keyHash P (Str.ofString "name")) (Value.str (Str.ofString "name") 324) (Value.ref 116)), (DictEntry.mk (PyData.keyHash P (Str.ofString "arity")) (Value.str (Str.ofString "arity") 332) (Value.ref 123)), (DictEntry.mk (PyData.keyHash P (Str.ofString "label")) (Value.str (Str.ofString "label") 340) (Value.ref 130)), (DictEntry.mk (PyData.keyHash P (Str.ofString "count")) (Value.str (Str.ofString "count") 347) (Value.ref 137)), (DictEntry.mk (PyData.keyHash P (Str.ofString "functor_count")) (Value.str (Str.ofString "functor_count") 354) (Value.ref 144)), (DictEntry.mk (PyData.keyHash P (Str.ofString "known")) (Value.str (Str.ofString "known") 363) (Value.ref 151)), (DictEntry.mk (PyData.keyHash P (Str.ofString "__static_attributes__")) (Value.str (Str.ofString "__static_attributes__") 368) (Value.ref 152)), (DictEntry.mk (PyData.keyHash P (Str.ofString "__dict__")) (Value.str (Str.ofString "__dict__") 370) (Value.ref 155)), (DictEntry.mk (PyData.keyHash P (Str.ofString "__weakref__")) (Value.str (Str.ofString "__weakref__") 372) (Value.ref 156)), (DictEntry.mk (PyData.keyHash P (Str.ofString "__doc__")) (Value.str (Str.ofString "__doc__") 373) Value.none)]) 4) (List.toArray []))) ::
  (nat_lit 154, (Obj.mk (Value.type "type") none (Data.cls (ClassData.mk (Str.ofString "Symbols") [(Value.type "object")] [(Value.ref 154), (Value.type "object")] 153 (Str.ofString "Symbols") Bool.true [] [] Bool.false none Bool.false)) (List.toArray [none, none, (some (Value.str (Str.ofString "Symbols") 257)), (some (Value.str (Str.ofString "Symbols") 265)), (some (Value.builtin "object.__new__")), (some (Value.bool Bool.true))]))) ::
  (nat_lit 155, (Obj.mk (Value.type "getset_descriptor") none (Data.fields (List.toArray [(Value.str (Str.ofString "__dict__") 369), (Value.ref 154), (Value.builtin "function.__dict__"), (Value.builtin "function.__dict__#set")])) (List.toArray []))) ::
  (nat_lit 156, (Obj.mk (Value.type "getset_descriptor") none (Data.fields (List.toArray [(Value.str (Str.ofString "__weakref__") 371), (Value.ref 154), (Value.builtin "ExceptionGroup.__weakref__"), Value.none])) (List.toArray []))) ::
  (nat_lit 159, (Obj.mk (Value.type "tuple") none (Data.seq (List.toArray []) 0) (List.toArray []))) ::
  (nat_lit 161, (Obj.mk (Value.type "tuple") none (Data.seq (List.toArray [(Value.str (Str.ofString "formal") 381)]) 0) (List.toArray []))) ::
  (nat_lit 162, (Obj.mk (Value.type "tuple") none (Data.seq (List.toArray []) 0) (List.toArray []))) ::
  (nat_lit 164, (Obj.mk (Value.type "code") none (Data.fields (List.toArray [(Value.str (Str.ofString "system_error") 378), (Value.str (Str.ofString "system_error") 379), (Value.str (Str.ofString "/claim/cut.py") 380), (Value.int 72 0), (Value.int 1 0), (Value.int 0 0), (Value.int 0 0), (Value.int 3 0), (Value.ref 159), (Value.bool Bool.true), (Value.int 181 0), (Value.ref 160), Value.none, (Value.ref 161), (Value.ref 162), (Value.ref 163), (Value.int 382 0), (Value.int 72 0), (Value.str (Str.ofString "/claim/cut.py") 383)])) (List.toArray []))) ::
  (nat_lit 165, (Obj.mk (Value.type "function") none (Data.func (FuncData.mk (Str.ofString "system_error") (Str.ofString "system_error") kA165.1 (FuncBody.stmts kB165.1) kS165.1 3 [] Value.none Value.none Value.none (Value.str (Str.ofString "clausemill.terms") 376) none (Value.ref 164) Value.none 0)) (List.toArray []))) ::
  (nat_lit 166, (Obj.mk (Value.type "tuple") none (Data.seq (List.toArray []) 0) (List.toArray []))) ::
  (nat_lit 168, (Obj.mk (Value.type "tuple") none (Data.seq (List.toArray [(Value.str (Str.ofString "symbols") 388), (Value.str (Str.ofString "name") 389), (Value.str (Str.ofString "parts") 390), (Value.str (Str.ofString "args") 391), (Value.str (Str.ofString "part") 392)]) 0) (List.toArray []))) ::
  (nat_lit 169, (Obj.mk (Value.type "tuple") none (Data.seq (List.toArray []) 0) (List.toArray []))) ::
  (nat_lit 171, (Obj.mk (Value.type "code") none (Data.fields (List.toArray [(Value.str (Str.ofString "formal_of") 385), (Value.str (Str.ofString "formal_of") 386), (Value.str (Str.ofString "/claim/cut.py") 387), (Value.int 74 0), (Value.int 3 0), (Value.int 0 0), (Value.int 0 0), (Value.int 3 0), (Value.ref 166), (Value.bool Bool.true), (Value.int 181 0), (Value.ref 167), Value.none, (Value.ref 168), (Value.ref 169), (Value.ref 170), (Value.int 393 0), (Value.int 74 0), (Value.str (Str.ofString "/claim/cut.py") 394)])) (List.toArray []))) ::
  (nat_lit 172, (Obj.mk (Value.type "function") none (Data.func (FuncData.mk (Str.ofString "formal_of") (Str.ofString "formal_of") kA172.1 (FuncBody.stmts kB172.1) kS172.1 3 [] Value.none Value.none Value.none (Value.str (Str.ofString "clausemill.terms") 376) none (Value.ref 171) Value.none 0)) (List.toArray []))) ::
  (nat_lit 173, (Obj.mk (Value.type "tuple") none (Data.seq (List.toArray []) 0) (List.toArray []))) ::
  (nat_lit 175, (Obj.mk (Value.type "tuple") none (Data.seq (List.toArray [(Value.str (Str.ofString "symbols") 399), (Value.str (Str.ofString "what") 400)]) 0) (List.toArray []))) ::
  (nat_lit 176, (Obj.mk (Value.type "tuple") none (Data.seq (List.toArray []) 0) (List.toArray []))) ::
  (nat_lit 178, (Obj.mk (Value.type "code") none (Data.fields (List.toArray [(Value.str (Str.ofString "resource_error") 396), (Value.str (Str.ofString "resource_error") 397), (Value.str (Str.ofString "/claim/cut.py") 398), (Value.int 79 0), (Value.int 2 0), (Value.int 0 0), (Value.int 0 0), (Value.int 3 0), (Value.ref 173), (Value.bool Bool.true), (Value.int 181 0), (Value.ref 174), Value.none, (Value.ref 175), (Value.ref 176), (Value.ref 177), (Value.int 401 0), (Value.int 79 0), (Value.str (Str.ofString "/claim/cut.py") 402)])) (List.toArray []))) ::
  (nat_lit 179, (Obj.mk (Value.type "function") none (Data.func (FuncData.mk (Str.ofString "resource_error") (Str.ofString "resource_error") kA179.1 (FuncBody.stmts kB179.1) kS179.1 3 [] Value.none Value.none Value.none (Value.str (Str.ofString "clausemill.terms") 376) none (Value.ref 178) Value.none 0)) (List.toArray []))) ::
  (nat_lit 180, (Obj.mk (Value.type "tuple") none (Data.seq (List.toArray [(Value.int 5 412), (Value.int 0 414)]) 0) (List.toArray []))) ::
  (nat_lit 188, (Obj.mk (Value.type "tuple") none (Data.seq (List.toArray [(Value.int 100000 428)]) 0) (List.toArray []))) ::
  (nat_lit 189, (Obj.mk (Value.type "tuple") none (Data.seq (List.toArray []) 0) (List.toArray []))) ::
  (nat_lit 191, (Obj.mk (Value.type "tuple") none (Data.seq (List.toArray [(Value.str (Str.ofString "self") 432), (Value.str (Str.ofString "symbols") 433), (Value.str (Str.ofString "max_heap") 434)]) 0) (List.toArray []))) ::
  (nat_lit 192, (Obj.mk (Value.type "tuple") none (Data.seq (List.toArray []) 0) (List.toArray []))) ::
  (nat_lit 194, (Obj.mk (Value.type "code") none (Data.fields (List.toArray [(Value.str (Str.ofString "__init__") 429), (Value.str (Str.ofString "Cells.__init__") 430), (Value.str (Str.ofString "/claim/cut.py") 431), (Value.int 89 0), (Value.int 3 0), (Value.int 0 0), (Value.int 0 0), (Value.int 3 0), (Value.ref 189), (Value.bool Bool.true), (Value.int 181 0), (Value.ref 190), Value.none, (Value.ref 191), (Value.ref 192), (Value.ref 193), (Value.int 435 0), (Value.int 89 0), (Value.str (Str.ofString "/claim/cut.py") 436)])) (List.toArray []))) ::
  (nat_lit 195, (Obj.mk (Value.type "function") none (Data.func (FuncData.mk (Str.ofString "__init__") (Str.ofString "Cells.__init__") kA195.1 (FuncBody.stmts kB195.1) kS195.1 3 [] (Value.ref 188) Value.none Value.none (Value.str (Str.ofString "clausemill.store") 404) none (Value.ref 194) Value.none 0)) (List.toArray []))) ::
  (nat_lit 196, (Obj.mk (Value.type "tuple") none (Data.seq (List.toArray []) 0) (List.toArray []))) ::
  (nat_lit 198, (Obj.mk (Value.type "tuple") none (Data.seq (List.toArray [(Value.str (Str.ofString "self") 441), (Value.str (Str.ofString "cell") 442), (Value.str (Str.ofString "address") 443)]) 0) (List.toArray []))) ::
  (nat_lit 199, (Obj.mk (Value.type "tuple") none (Data.seq (List.toArray []) 0) (List.toArray []))) ::
  (nat_lit 201, (Obj.mk (Value.type "code") none (Data.fields (List.toArray [(Value.str (Str.ofString "push") 438), (Value.str (Str.ofString "Cells.push") 439), (Value.str (Str.ofString "/claim/cut.py") 440), (Value.int 98 0), (Value.int 2 0), (Value.int 0 0), (Value.int 0 0), (Value.int 3 0), (Value.ref 196), (Value.bool Bool.true), (Value.int 181 0), (Value.ref 197), Value.none, (Value.ref 198), (Value.ref 199), (Value.ref 200), (Value.int 444 0), (Value.int 98 0), (Value.str (Str.ofString "/claim/cut.py") 445)])) (List.toArray []))) ::
  (nat_lit 202, (Obj.mk (Value.type "function") none (Data.func (FuncData.mk (Str.ofString "push") (Str.ofString "Cells.push") kA202.1 (FuncBody.stmts kB202.1) kS202.1 3 [] Value.none Value.none Value.none (Value.str (Str.ofString "clausemill.store") 404) none (Value.ref 201) Value.none 0)) (List.toArray []))) ::
  (nat_lit 203, (Obj.mk (Value.type "tuple") none (Data.seq (List.toArray []) 0) (List.toArray []))) ::
  (nat_lit 205, (Obj.mk (Value.type "tuple") none (Data.seq (List.toArray [(Value.str (Str.ofString "self") 450), (Value.str (Str.ofString "cell") 451)]) 0) (List.toArray []))) ::
  (nat_lit 206, (Obj.mk (Value.type "tuple") none (Data.seq (List.toArray []) 0) (List.toArray []))) ::
  (nat_lit 208, (Obj.mk (Value.type "code") none (Data.fields (List.toArray [(Value.str (Str.ofString "new_var") 447), (Value.str (Str.ofString "Cells.new_var") 448), (Value.str (Str.ofString "/claim/cut.py") 449), (Value.int 105 0), (Value.int 1 0), (Value.int 0 0), (Value.int 0 0), (Value.int 3 0), (Value.ref 203), (Value.bool Bool.true), (Value.int 181 0), (Value.ref 204), Value.none, (Value.ref 205), (Value.ref 206), (Value.ref 207), (Value.int 452 0), (Value.int 105 0), (Value.str (Str.ofString "/claim/cut.py") 453)])) (List.toArray []))) ::
  (nat_lit 209, (Obj.mk (Value.type "function") none (Data.func (FuncData.mk (Str.ofString "new_var") (Str.ofString "Cells.new_var") kA209.1 (FuncBody.stmts kB209.1) kS209.1 3 [] Value.none Value.none Value.none (Value.str (Str.ofString "clausemill.store") 404) none (Value.ref 208) Value.none 0)) (List.toArray []))) ::
  (nat_lit 210, (Obj.mk (Value.type "tuple") none (Data.seq (List.toArray []) 0) (List.toArray []))) ::
  (nat_lit 212, (Obj.mk (Value.type "tuple") none (Data.seq (List.toArray [(Value.str (Str.ofString "self") 458), (Value.str (Str.ofString "count") 459)]) 0) (List.toArray []))) ::
  (nat_lit 213, (Obj.mk (Value.type "tuple") none (Data.seq (List.toArray []) 0) (List.toArray []))) ::
  (nat_lit 215, (Obj.mk (Value.type "code") none (Data.fields (List.toArray [(Value.str (Str.ofString "reserve") 455), (Value.str (Str.ofString "Cells.reserve") 456), (Value.str (Str.ofString "/claim/cut.py") 457), (Value.int 110 0), (Value.int 2 0), (Value.int 0 0), (Value.int 0 0), (Value.int 3 0), (Value.ref 210), (Value.bool Bool.true), (Value.int 181 0), (Value.ref 211), Value.none, (Value.ref 212), (Value.ref 213), (Value.ref 214), (Value.int 460 0), (Value.int 110 0), (Value.str (Str.ofString "/claim/cut.py") 461)])) (List.toArray []))) ::
  (nat_lit 216, (Obj.mk (Value.type "function") none (Data.func (FuncData.mk (Str.ofString "reserve") (Str.ofString "Cells.reserve") kA216.1 (FuncBody.stmts kB216.1) kS216.1 3 [] Value.none Value.none Value.none (Value.str (Str.ofString "clausemill.store") 404) none (Value.ref 215) Value.none 0)) (List.toArray []))) ::
  (nat_lit 217, (Obj.mk (Value.type "tuple") none (Data.seq (List.toArray []) 0) (List.toArray []))) ::
  (nat_lit 219, (Obj.mk (Value.type "tuple") none (Data.seq (List.toArray [(Value.str (Str.ofString "self") 466), (Value.str (Str.ofString "h") 467)]) 0) (List.toArray []))) ::
  (nat_lit 220, (Obj.mk (Value.type "tuple") none (Data.seq (List.toArray []) 0) (List.toArray []))) ::
  (nat_lit 222, (Obj.mk (Value.type "code") none (Data.fields (List.toArray [(Value.str (Str.ofString "trim") 463), (Value.str (Str.ofString "Cells.trim") 464), (Value.str (Str.ofString "/claim/cut.py") 465), (Value.int 113 0), (Value.int 2 0), (Value.int 0 0), (Value.int 0 0), (Value.int 3 0), (Value.ref 217), (Value.bool Bool.true), (Value.int 181 0), (Value.ref 218), Value.none, (Value.ref 219), (Value.ref 220), (Value.ref 221), (Value.int 468 0), (Value.int 113 0), (Value.str (Str.ofString "/claim/cut.py") 469)])) (List.toArray []))) ::
  (nat_lit 223, (Obj.mk (Value.type "function") none (Data.func (FuncData.mk (Str.ofString "trim") (Str.ofString "Cells.trim") kA223.1 (FuncBody.stmts kB223.1) kS223.1 3 [] Value.none Value.none Value.none (Value.str (Str.ofString "clausemill.store") 404) none (Value.ref 222) Value.none 0)) (List.toArray []))) ::
  (nat_lit 224, (Obj.mk (Value.type "tuple") none (Data.seq (List.toArray []) 0) (List.toArray []))) ::
  (nat_lit 226, (Obj.mk (Value.type "tuple") none (Data.seq (List.toArray [(Value.str (Str.ofString "self") 474), (Value.str (Str.ofString "cell") 475)]) 0) (List.toArray []))) ::
  (nat_lit 227, (Obj.mk (Value.type "tuple") none (Data.seq (List.toArray []) 0) (List.toArray []))) ::
  (nat_lit 229, (Obj.mk (Value.type "code") none (Data.fields (List.toArray [(Value.str (Str.ofString "deref") 471), (Value.str (Str.ofString "Cells.deref") 472), (Value.str (Str.ofString "/claim/cut.py") 473), (Value.int 116 0), (Value.int 2 0), (Value.int 0 0), (Value.int 0 0), (Value.int 3 0), (Value.ref 224), (Value.bool Bool.true), (Value.int 181 0), (Value.ref 225), Value.none, (Value.ref 226), (Value.ref 227), (Value.ref 228), (Value.int 476 0), (Value.int 116 0), (Value.str (Str.ofString "/claim/cut.py") 477)])) (List.toArray []))) ::
  (nat_lit 230, (Obj.mk (Value.type "function") none (Data.func (FuncData.mk (Str.ofString "deref") (Str.ofString "Cells.deref") kA230.1 (FuncBody.stmts kB230.1) kS230.1 3 [] Value.none Value.none Value.none (Value.str (Str.ofString "clausemill.store") 404) none (Value.ref 229) Value.none 0)) (List.toArray []))) ::
  (nat_lit 231, (Obj.mk (Value.type "tuple") none (Data.seq (List.toArray []) 0) (List.toArray []))) ::
  (nat_lit 233, (Obj.mk (Value.type "tuple") none (Data.seq (List.toArray [(Value.str (Str.ofString "self") 482), (Value.str (Str.ofString "cell") 483)]) 0) (List.toArray []))) ::
  (nat_lit 234, (Obj.mk (Value.type "tuple") none (Data.seq (List.toArray []) 0) (List.toArray []))) ::
  (nat_lit 236, (Obj.mk (Value.type "code") none (Data.fields (List.toArray [(Value.str (Str.ofString "is_unbound") 479), (Value.str (Str.ofString "Cells.is_unbound") 480), (Value.str (Str.ofString "/claim/cut.py") 481), (Value.int 119 0), (Value.int 2 0), (Value.int 0 0), (Value.int 0 0), (Value.int 3 0), (Value.ref 231), (Value.bool Bool.true), (Value.int 181 0), (Value.ref 232), Value.none, (Value.ref 233), (Value.ref 234), (Value.ref 235), (Value.int 484 0), (Value.int 119 0), (Value.str (Str.ofString "/claim/cut.py") 485)])) (List.toArray []))) ::
  (nat_lit 237, (Obj.mk (Value.type "function") none (Data.func (FuncData.mk (Str.ofString "is_unbound") (Str.ofString "Cells.is_unbound") kA237.1 (FuncBody.stmts kB237.1) kS237.1 3 [] Value.none Value.none Value.none (Value.str (Str.ofString "clausemill.store") 404) none (Value.ref 236) Value.none 0)) (List.toArray []))) ::
  (nat_lit 238, (Obj.mk (Value.type "tuple") none (Data.seq (List.toArray []) 0) (List.toArray []))) ::
  (nat_lit 240, (Obj.mk (Value.type "tuple") none (Data.seq (List.toArray [(Value.str (Str.ofString "self") 490), (Value.str (Str.ofString "cell") 491), (Value.str (Str.ofString "value") 492)]) 0) (List.toArray []))) ::
  (nat_lit 241, (Obj.mk (Value.type "tuple") none (Data.seq (List.toArray []) 0) (List.toArray []))) ::
  (nat_lit 243, (Obj.mk (Value.type "code") none (Data.fields (List.toArray [(Value.str (Str.ofString "bind") 487), (Value.str (Str.ofString "Cells.bind") 488), (Value.str (Str.ofString "/claim/cut.py") 489), (Value.int 122 0), (Value.int 3 0), (Value.int 0 0), (Value.int 0 0), (Value.int 3 0), (Value.ref 238), (Value.bool Bool.true), (Value.int 181 0), (Value.ref 239), Value.none, (Value.ref 240), (Value.ref 241), (Value.ref 242), (Value.int 493 0), (Value.int 122 0), (Value.str (Str.ofString "/claim/cut.py") 494)])) (List.toArray []))) ::
  (nat_lit 244, (Obj.mk (Value.type "function") none (Data.func (FuncData.mk (Str.ofString "bind") (Str.ofString "Cells.bind") kA244.1 (FuncBody.stmts kB244.1) kS244.1 3 [] Value.none Value.none Value.none (Value.str (Str.ofString "clausemill.store") 404) none (Value.ref 243) Value.none 0)) (List.toArray []))) ::
  (nat_lit 245, (Obj.mk (Value.type "tuple") none (Data.seq (List.toArray []) 0) (List.toArray []))) ::
  (nat_lit 247, (Obj.mk (Value.type "tuple") none (Data.seq (List.toArray [(Value.str (Str.ofString "self") 499), (Value.str (Str.ofString "c1") 500), (Value.str (Str.ofString "c2") 501)]) 0) (List.toArray []))) ::
  (nat_lit 248, (Obj.mk (Value.type "tuple") none (Data.seq (List.toArray []) 0) (List.toArray []))) ::
  (nat_lit 250, (Obj.mk (Value.type "code") none (Data.fields (List.toArray [(Value.str (Str.ofString "bind_pair") 496), (Value.str (Str.ofString "Cells.bind_pair") 497), (Value.str (Str.ofString "/claim/cut.py") 498), (Value.int 125 0), (Value.int 3 0), (Value.int 0 0), (Value.int 0 0), (Value.int 3 0), (Value.ref 245), (Value.bool Bool.true), (Value.int 181 0), (Value.ref 246), Value.none, (Value.ref 247), (Value.ref 248), (Value.ref 249), (Value.int 502 0), (Value.int 125 0), (Value.str (Str.ofString "/claim/cut.py") 503)])) (List.toArray []))) ::
  (nat_lit 251, (Obj.mk (Value.type "function") none (Data.func (FuncData.mk (Str.ofString "bind_pair") (Str.ofString "Cells.bind_pair") kA251.1 (FuncBody.stmts kB251.1) kS251.1 3 [] Value.none Value.none Value.none (Value.str (Str.ofString "clausemill.store") 404) none (Value.ref 250) Value.none 0)) (List.toArray []))) ::
  (nat_lit 252, (Obj.mk (Value.type "tuple") none (Data.seq (List.toArray []) 0) (List.toArray []))) ::
  (nat_lit 254, (Obj.mk (Value.type "tuple") none (Data.seq (List.toArray [(Value.str (Str.ofString "self") 508), (Value.str (Str.ofString "cell") 509)]) 0) (List.toArray []))) ::
  (nat_lit 255, (Obj.mk (Value.type "tuple") none (Data.seq (List.toArray []) 0) (List.toArray []))) ::
  (nat_lit 257, (Obj.mk (Value.type "code") none (Data.fields (List.toArray [(Value.str (Str.ofString "globalise") 505), (Value.str (Str.ofString "Cells.globalise") 506), (Value.str (Str.ofString "/claim/cut.py") 507), (Value.int 128 0), (Value.int 2 0), (Value.int 0 0), (Value.int 0 0), (Value.int 3 0), (Value.ref 252), (Value.bool Bool.true), (Value.int 181 0), (Value.ref 253), Value.none, (Value.ref 254), (Value.ref 255), (Value.ref 256), (Value.int 510 0), (Value.int 128 0), (Value.str (Str.ofString "/claim/cut.py") 511)])) (List.toArray []))) ::
  (nat_lit 258, (Obj.mk (Value.type "function") none (Data.func (FuncData.mk (Str.ofString "globalise") (Str.ofString "Cells.globalise") kA258.1 (FuncBody.stmts kB258.1) kS258.1 3 [] Value.none Value.none Value.none (Value.str (Str.ofString "clausemill.store") 404) none (Value.ref 257) Value.none 0)) (List.toArray []))) ::
  (nat_lit 259, (Obj.mk (Value.type "tuple") none (Data.seq (List.toArray []) 0) (List.toArray []))) ::
  (nat_lit 261, (Obj.mk (Value.type "tuple") none (Data.seq (List.toArray [(Value.str (Str.ofString "self") 516)]) 0) (List.toArray []))) ::
  (nat_lit 262, (Obj.mk (Value.type "tuple") none (Data.seq (List.toArray []) 0) (List.toArray []))) ::
  (nat_lit 264, (Obj.mk (Value.type "code") none (Data.fields (List.toArray [(Value.str (Str.ofString "mark") 513), (Value.str (Str.ofString "Cells.mark") 514), (Value.str (Str.ofString "/claim/cut.py") 515), (Value.int 131 0), (Value.int 1 0), (Value.int 0 0), (Value.int 0 0), (Value.int 3 0), (Value.ref 259), (Value.bool Bool.true), (Value.int 181 0), (Value.ref 260), Value.none, (Value.ref 261), (Value.ref 262), (Value.ref 263), (Value.int 517 0), (Value.int 131 0), (Value.str (Str.ofString "/claim/cut.py") 518)])) (List.toArray []))) ::
  (nat_lit 265, (Obj.mk (Value.type "function") none (Data.func (FuncData.mk (Str.ofString "mark") (Str.ofString "Cells.mark") kA265.1 (FuncBody.stmts kB265.1) kS265.1 3 [] Value.none Value.none Value.none (Value.str (Str.ofString "clausemill.store") 404) none (Value.ref 264) Value.none 0)) (List.toArray []))) ::
  (nat_lit 266, (Obj.mk (Value.type "tuple") none (Data.seq (List.toArray []) 0) (List.toArray []))) ::
  (nat_lit 268, (Obj.mk (Value.type "tuple") none (Data.seq (List.toArray [(Value.str (Str.ofString "self") 523), (Value.str (Str.ofString "mark") 524), (Value.str (Str.ofString "entry") 525), (Value.str (Str.ofString "slot") 526)]) 0) (List.toArray []))) ::
  (nat_lit 269, (Obj.mk (Value.type "tuple") none (Data.seq (List.toArray []) 0) (List.toArray []))) ::
  (nat_lit 271, (Obj.mk (Value.type "code") none (Data.fields (List.toArray [(Value.str (Str.ofString "undo_to") 520), (Value.str (Str.ofString "Cells.undo_to") 521), (Value.str (Str.ofString "/claim/cut.py") 522), (Value.int 134 0), (Value.int 2 0), (Value.int 0 0), (Value.int 0 0), (Value.int 3 0), (Value.ref 266), (Value.bool Bool.true), (Value.int 181 0), (Value.ref 267), Value.none, (Value.ref 268), (Value.ref 269), (Value.ref 270), (Value.int 527 0), (Value.int 134 0), (Value.str (Str.ofString "/claim/cut.py") 528)])) (List.toArray []))) ::
  (nat_lit 272, (Obj.mk (Value.type "function") none (Data.func (FuncData.mk (Str.ofString "undo_to") (Str.ofString "Cells.undo_to") kA272.1 (FuncBody.stmts kB272.1) kS272.1 3 [] Value.none Value.none Value.none (Value.str (Str.ofString "clausemill.store") 404) none (Value.ref 271) Value.none 0)) (List.toArray []))) ::
  (nat_lit 273, (Obj.mk (Value.type "tuple") none (Data.seq (List.toArray []) 0) (List.toArray []))) ::
  (nat_lit 275, (Obj.mk (Value.type "tuple") none (Data.seq (List.toArray [(Value.str (Str.ofString "self") 533), (Value.str (Str.ofString "i") 534), (Value.str (Str.ofString "value") 535), (Value.str (Str.ofString "stack") 536)]) 0) (List.toArray []))) ::
  (nat_lit 276, (Obj.mk (Value.type "tuple") none (Data.seq (List.toArray []) 0) (List.toArray []))) ::
  (nat_lit 278, (Obj.mk (Value.type "code") none (Data.fields (List.toArray [(Value.str (Str.ofString "stack_put") 530), (Value.str (Str.ofString "Cells.stack_put") 531), (Value.str (Str.ofString "/claim/cut.py") 532), (Value.int 143 0), (Value.int 3 0), (Value.int 0 0), (Value.int 0 0), (Value.int 3 0), (Value.ref 273), (Value.bool Bool.true), (Value.int 181 0), (Value.ref 274), Value.none, (Value.ref 275), (Value.ref 276), (Value.ref 277), (Value.int 537 0), (Value.int 143 0), (Value.str (Str.ofString "/claim/cut.py") 538)])) (List.toArray []))) ::
  (nat_lit 279, (Obj.mk (Value.type "function") none (Data.func (FuncData.mk (Str.ofString "stack_put") (Str.ofString "Cells.stack_put") kA279.1 (FuncBody.stmts kB279.1) kS279.1 3 [] Value.none Value.none Value.none (Value.str (Str.ofString "clausemill.store") 404) none (Value.ref 278) Value.none 0)) (List.toArray []))) ::
  (nat_lit 280, (Obj.mk (Value.type "tuple") none (Data.seq (List.toArray []) 0) (List.toArray []))) ::
  (nat_lit 282, (Obj.mk (Value.type "tuple") none (Data.seq (List.toArray [(Value.str (Str.ofString "self") 543), (Value.str (Str.ofString "cell") 544)]) 0) (List.toArray []))) ::
  (nat_lit 283, (Obj.mk (Value.type "tuple") none (Data.seq (List.toArray []) 0) (List.toArray []))) ::
  (nat_lit 285, (Obj.mk (Value.type "code") none (Data.fields (List.toArray [(Value.str (Str.ofString "is_compound") 540), (Value.str (Str.ofString "Cells.is_compound") 541), (Value.str (Str.ofString "/claim/cut.py") 542), (Value.int 152 0), (Value.int 2 0), (Value.int 0 0), (Value.int 0 0), (Value.int 3 0), (Value.ref 280), (Value.bool Bool.true), (Value.int 181 0), (Value.ref 281), Value.none, (Value.ref 282), (Value.ref 283), (Value.ref 284), (Value.int 545 0), (Value.int 152 0), (Value.str (Str.ofString "/claim/cut.py") 546)])) (List.toArray []))) ::
  (nat_lit 286, (Obj.mk (Value.type "function") none (Data.func (FuncData.mk (Str.ofString "is_compound") (Str.ofString "Cells.is_compound") kA286.1 (FuncBody.stmts kB286.1) kS286.1 3 [] Value.none Value.none Value.none (Value.str (Str.ofString "clausemill.store") 404) none (Value.ref 285) Value.none 0)) (List.toArray []))) ::
  (nat_lit 287, (Obj.mk (Value.type "tuple") none (Data.seq (List.toArray []) 0) (List.toArray []))) ::
  (nat_lit 289, (Obj.mk (Value.type "tuple") none (Data.seq (List.toArray [(Value.str (Str.ofString "self") 551), (Value.str (Str.ofString "cell") 552)]) 0) (List.toArray []))) ::
  (nat_lit 290, (Obj.mk (Value.type "tuple") none (Data.seq (List.toArray []) 0) (List.toArray []))) ::
  (nat_lit 292, (Obj.mk (Value.type "code") none (Data.fields (List.toArray [(Value.str (Str.ofString "functor_of") 548), (Value.str (Str.ofString "Cells.functor_of") 549), (Value.str (Str.ofString "/claim/cut.py") 550), (Value.int 155 0), (Value.int 2 0), (Value.int 0 0), (Value.int 0 0), (Value.int 3 0), (Value.ref 287), (Value.bool Bool.true), (Value.int 181 0), (Value.ref 288), Value.none, (Value.ref 289), (Value.ref 290), (Value.ref 291), (Value.int 553 0), (Value.int 155 0), (Value.str (Str.ofString "/claim/cut.py") 554)])) (List.toArray []))) ::
  (nat_lit 293, (Obj.mk (Value.type "function") none (Data.func (FuncData.mk (Str.ofString "functor_of") (Str.ofString "Cells.functor_of") kA293.1 (FuncBody.stmts kB293.1) kS293.1 3 [] Value.none Value.none Value.none (Value.str (Str.ofString "clausemill.store") 404) none (Value.ref 292) Value.none 0)) (List.toArray []))) ::
  (nat_lit 294, (Obj.mk (Value.type "tuple") none (Data.seq (List.toArray []) 0) (List.toArray []))) ::
  (nat_lit 296, (Obj.mk (Value.type "tuple") none (Data.seq (List.toArray [(Value.str (Str.ofString "self") 559), (Value.str (Str.ofString "cell") 560)]) 0) (List.toArray []))) ::
  (nat_lit 297, (Obj.mk (Value.type "tuple") none (Data.seq (List.toArray []) 0) (List.toArray []))) ::
  (nat_lit 299, (Obj.mk (Value.type "code") none (Data.fields (List.toArray [(Value.str (Str.ofString "width") 556), (Value.str (Str.ofString "Cells.width") 557), (Value.str (Str.ofString "/claim/cut.py") 558), (Value.int 158 0), (Value.int 2 0), (Value.int 0 0), (Value.int 0 0), (Value.int 3 0), (Value.ref 294), (Value.bool Bool.true), (Value.int 181 0), (Value.ref 295), Value.none, (Value.ref 296), (Value.ref 297), (Value.ref 298), (Value.int 561 0), (Value.int 158 0), (Value.str (Str.ofString "/claim/cut.py") 562)])) (List.toArray []))) ::
  (nat_lit 300, (Obj.mk (Value.type "function") none (Data.func (FuncData.mk (Str.ofString "width") (Str.ofString "Cells.width") kA300.1 (FuncBody.stmts kB300.1) kS300.1 3 [] Value.none Value.none Value.none (Value.str (Str.ofString "clausemill.store") 404) none (Value.ref 299) Value.none 0)) (List.toArray []))) ::
  (nat_lit 301, (Obj.mk (Value.type "tuple") none (Data.seq (List.toArray []) 0) (List.toArray []))) ::
  (nat_lit 303, (Obj.mk (Value.type "tuple") none (Data.seq (List.toArray [(Value.str (Str.ofString "self") 567), (Value.str (Str.ofString "cell") 568)]) 0) (List.toArray []))) ::
  (nat_lit 304, (Obj.mk (Value.type "tuple") none (Data.seq (List.toArray []) 0) (List.toArray []))) ::
  (nat_lit 306, (Obj.mk (Value.type "code") none (Data.fields (List.toArray [(Value.str (Str.ofString "base") 564), (Value.str (Str.ofString "Cells.base") 565), (Value.str (Str.ofString "/claim/cut.py") 566), (Value.int 161 0), (Value.int 2 0), (Value.int 0 0), (Value.int 0 0), (Value.int 3 0), (Value.ref 301), (Value.bool Bool.true), (Value.int 181 0), (Value.ref 302), Value.none, (Value.ref 303), (Value.ref 304), (Value.ref 305), (Value.int 569 0), (Value.int 161 0), (Value.str (Str.ofString "/claim/cut.py") 570)])) (List.toArray []))) ::
  (nat_lit 307, (Obj.mk (Value.type "function") none (Data.func (FuncData.mk (Str.ofString "base") (Str.ofString "Cells.base") kA307.1 (FuncBody.stmts kB307.1) kS307.1 3 [] Value.none Value.none Value.none (Value.str (Str.ofString "clausemill.store") 404) none (Value.ref 306) Value.none 0)) (List.toArray []))) ::
  (nat_lit 308, (Obj.mk (Value.type "tuple") none (Data.seq (List.toArray []) 0) (List.toArray []))) ::
  (nat_lit 310, (Obj.mk (Value.type "tuple") none (Data.seq (List.toArray [(Value.str (Str.ofString "self") 575), (Value.str (Str.ofString "cell") 576), (Value.str (Str.ofString "i") 577)]) 0) (List.toArray []))) ::
  (nat_lit 311, (Obj.mk (Value.type "tuple") none (Data.seq (List.toArray []) 0) (List.toArray []))) ::
  (nat_lit 313, (Obj.mk (Value.type "code") none (Data.fields (List.toArray [(Value.str (Str.ofString "arg") 572), (Value.str (Str.ofString "Cells.arg") 573), (Value.str (Str.ofString "/claim/cut.py") 574), (Value.int 166 0), (Value.int 3 0), (Value.int 0 0), (Value.int 0 0), (Value.int 3 0), (Value.ref 308), (Value.bool Bool.true), (Value.int 181 0), (Value.ref 309), Value.none, (Value.ref 310), (Value.ref 311), (Value.ref 312), (Value.int 578 0), (Value.int 166 0), (Value.str (Str.ofString "/claim/cut.py") 579)])) (List.toArray []))) ::
  (nat_lit 314, (Obj.mk (Value.type "function") none (Data.func (FuncData.mk (Str.ofString "arg") (Str.ofString "Cells.arg") kA314.1 (FuncBody.stmts kB314.1) kS314.1 3 [] Value.none Value.none Value.none (Value.str (Str.ofString "clausemill.store") 404) none (Value.ref 313) Value.none 0)) (List.toArray []))) ::
  (nat_lit 315, (Obj.mk (Value.type "tuple") none (Data.seq (List.toArray []) 0) (List.toArray []))) ::
  (nat_lit 317, (Obj.mk (Value.type "tuple") none (Data.seq (List.toArray [(Value.str (Str.ofString "self") 584), (Value.str (Str.ofString "f") 585)]) 0) (List.toArray []))) ::
  (nat_lit 318, (Obj.mk (Value.type "tuple") none (Data.seq (List.toArray []) 0) (List.toArray []))) ::
  (nat_lit 320, (Obj.mk (Value.type "code") none (Data.fields (List.toArray [(Value.str (Str.ofString "new_block") 581), (Value.str (Str.ofString "Cells.new_block") 582), (Value.str (Str.ofString "/claim/cut.py") 583), (Value.int 169 0), (Value.int 2 0), (Value.int 0 0), (Value.int 0 0), (Value.int 3 0), (Value.ref 315), (Value.bool Bool.true), (Value.int 181 0), (Value.ref 316), Value.none, (Value.ref 317), (Value.ref 318), (Value.ref 319), (Value.int 586 0), (Value.int 169 0), (Value.str (Str.ofString "/claim/cut.py") 587)])) (List.toArray []))) ::
  (nat_lit 321, (Obj.mk (Value.type "function") none (Data.func (FuncData.mk (Str.ofString "new_block") (Str.ofString "Cells.new_block") kA321.1 (FuncBody.stmts kB321.1) kS321.1 3 [] Value.none Value.none Value.none (Value.str (Str.ofString "clausemill.store") 404) none (Value.ref 320) Value.none 0)) (List.toArray []))) ::
  (nat_lit 322, (Obj.mk (Value.type "tuple") none (Data.seq (List.toArray [(Value.str (Str.ofString "bb") 589), (Value.str (Str.ofString "hb") 590), (Value.str (Str.ofString "heap") 591), (Value.str (Str.ofString "max_heap") 592), (Value.str (Str.ofString "stack") 593), (Value.str (Str.ofString "symbols") 594), (Value.str (Str.ofString "trail") 595)]) 0) (List.toArray []))) ::
  (nat_lit 323, (Obj.mk (Value.type "dict") none (Data.dict (List.toArray [(DictEntry.mk (PyData.keyHash P (Str.ofString "__module__")) (Value.str (Str.ofString "__module__") 423) (Value.str (Str.ofString "clausemill.store") 404)), (DictEntry.mk (PyData.keyHash P (Str.ofString "__firstlineno__")) (Value.str (Str.ofString "__firstlineno__") 427) (Value.int 87 426)), (DictEntry.mk (PyData.keyHash P (Str.ofString "__init__")) (Value.str (Str.ofString "__init__") 437) (Value.ref 195)), (DictEntry.mk (PyData.keyHash P (Str.ofString "push")) (Value.str (Str.ofString "push") 446) (Value.ref 202)), (DictEntry.mk (PyData.keyHash P (Str.ofString "new_var")) (Value.str (Str.ofString "new_var") 454) (Value.ref 209)), (DictEntry.mk (PyData.keyHash P (Str.ofString "reserve")) (Value.str (Str.ofString "reserve") 462) (Value.ref 216)), (DictEntry.mk (PyData.keyHash P (Str.ofString "trim")) (Value.str (Str.ofString "trim") 470) (Value.ref 223)), (DictEntry.mk (PyData.keyHash P (Str.ofString "deref")) (Value.str (Str.ofString "deref") 478) (Value.ref 230)), (DictEntry.mk (PyData.keyHash P (Str.ofString "is_unbound")) (Value.str (Str.ofString "is_unbound") 486) (Value.ref 237)), (DictEntry.mk (PyData.keyHash P (Str.ofString "bind")) (Value.str (Str.ofString "bind") 495) (Value.ref 244)), (DictEntry.mk (PyData.keyHash P (Str.ofString "bind_pair")) (Value.str (Str.ofString "bind_pair") 504) (Value.ref 251)), (DictEntry.mk (PyData.keyHash P (Str.ofString "globalise")) (Value.str (Str.ofString "globalise") 512) (Value.ref 258)), (DictEntry.mk (PyData.keyHash P (Str.ofString "mark")) (Value.str (Str.ofString "mark") 519) (Value.ref 265)), (DictEntry.mk (PyData.keyHash P (Str.ofString "undo_to")) (Value.str (Str.ofString "undo_to") 529) (Value.ref 272)), (DictEntry.mk (PyData.keyHash P (Str.ofString "stack_put")) (Value.str (Str.ofString "stack_put") 539) (Value.ref 279)), (DictEntry.mk (PyData.keyHash P (Str.ofString "is_compound")) (Value.str (Str.ofString "is_compound") 547) (Value.ref 286)), (DictEntry.mk (PyData.keyHash P (Str.ofString "functor_of")) (Value.str (Str.ofString "functor_of") 555) (Value.ref 293)), (DictEntry.mk (PyData.keyHash P (Str.ofString "width")) (Value.str (Str.ofString "width") 563) (Value.ref 300)), (DictEntry.mk (PyData.keyHash P (Str.ofString "base")) (Value.str (Str.ofString "base") 571) (Value.ref 307)), (DictEntry.mk (PyData.keyHash P (Str.ofString "arg")) (Value.str (Str.ofString "arg") 580) (Value.ref 314)), (DictEntry.mk (PyData.keyHash P (Str.ofString "new_block")) (Value.str (Str.ofString "new_block") 588) (Value.ref 321)), (DictEntry.mk (PyData.keyHash P (Str.ofString "__static_attributes__")) (Value.str (Str.ofString "__static_attributes__") 596) (Value.ref 322)), (DictEntry.mk (PyData.keyHash P (Str.ofString "__dict__")) (Value.str (Str.ofString "__dict__") 598) (Value.ref 325)), (DictEntry.mk (PyData.keyHash P (Str.ofString "__weakref__")) (Value.str (Str.ofString "__weakref__") 600) (Value.ref 326)), (DictEntry.mk (PyData.keyHash P (Str.ofString "__doc__")) (Value.str (Str.ofString "__doc__") 601) Value.none)]) 4) (List.toArray []))) ::
  (nat_lit 324, (Obj.mk (Value.type "type") none (Data.cls (ClassData.mk (Str.ofString "Cells") [(Value.type "object")] [(Value.ref 324), (Value.type "object")] 323 (Str.ofString "Cells") Bool.true [] [(Value.ref 374)] Bool.false none Bool.false)) (List.toArray [none, none, (some (Value.str (Str.ofString "Cells") 416)), (some (Value.str (Str.ofString "Cells") 424)), (some (Value.builtin "object.__new__")), (some (Value.bool Bool.true))]))) ::
  (nat_lit 325, (Obj.mk (Value.type "getset_descriptor") none (Data.fields (List.toArray [(Value.str (Str.ofString "__dict__") 597), (Value.ref 324), (Value.builtin "function.__dict__"), (Value.builtin "function.__dict__#set")])) (List.toArray []))) ::
  (nat_lit 326, (Obj.mk (Value.type "getset_descriptor") none (Data.fields (List.toArray [(Value.str (Str.ofString "__weakref__") 599), (Value.ref 324), (Value.builtin "ExceptionGroup.__weakref__"), Value.none])) (List.toArray []))) ::
  (nat_lit 329, (Obj.mk (Value.type "tuple") none (Data.seq (List.toArray [(Value.ref 324)]) 0) (List.toArray []))) ::
  (nat_lit 336, (Obj.mk (Value.type "tuple") none (Data.seq (List.toArray []) 0) (List.toArray []))) ::
  (nat_lit 338, (Obj.mk (Value.type "tuple") none (Data.seq (List.toArray [(Value.str (Str.ofString "self") 619), (Value.str (Str.ofString "f") 620), (Value.str (Str.ofString "cells") 621)]) 0) (List.toArray []))) ::
  (nat_lit 339, (Obj.mk (Value.type "tuple") none (Data.seq (List.toArray []) 0) (List.toArray []))) ::
  (nat_lit 341, (Obj.mk (Value.type "code") none (Data.fields (List.toArray [(Value.str (Str.ofString "new_struct") 616), (Value.str (Str.ofString "Store.new_struct") 617), (Value.str (Str.ofString "/claim/cut.py") 618), (Value.int 173 0), (Value.int 3 0), (Value.int 0 0), (Value.int 0 0), (Value.int 3 0), (Value.ref 336), (Value.bool Bool.true), (Value.int 181 0), (Value.ref 337), Value.none, (Value.ref 338), (Value.ref 339), (Value.ref 340), (Value.int 622 0), (Value.int 173 0), (Value.str (Str.ofString "/claim/cut.py") 623)])) (List.toArray []))) ::
  (nat_lit 342, (Obj.mk (Value.type "function") none (Data.func (FuncData.mk (Str.ofString "new_struct") (Str.ofString "Store.new_struct") kA342.1 (FuncBody.stmts kB342.1) kS342.1 3 [] Value.none Value.none Value.none (Value.str (Str.ofString "clausemill.store") 404) none (Value.ref 341) Value.none 0)) (List.toArray []))) ::
  (nat_lit 343, (Obj.mk (Value.type "tuple") none (Data.seq (List.toArray [Value.none]) 0) (List.toArray []))) ::
  (nat_lit 344, (Obj.mk (Value.type "tuple") none (Data.seq (List.toArray []) 0) (List.toArray []))) ::
  (nat_lit 346, (Obj.mk (Value.type "tuple") none (Data.seq (List.toArray [(Value.str (Str.ofString "self") 628), (Value.str (Str.ofString "cells") 629), (Value.str (Str.ofString "tail") 630)]) 0) (List.toArray []))) ::
  (nat_lit 347, (Obj.mk (Value.type "tuple") none (Data.seq (List.toArray []) 0) (List.toArray []))) ::
  (nat_lit 349, (Obj.mk (Value.type "code") none (Data.fields (List.toArray [(Value.str (Str.ofString "build_list") 625), (Value.str (Str.ofString "Store.build_list") 626), (Value.str (Str.ofString "/claim/cut.py") 627), (Value.int 176 0), (Value.int 3 0), (Value.int 0 0), (Value.int 0 0), (Value.int 3 0), (Value.ref 344), (Value.bool Bool.true), (Value.int 181 0), (Value.ref 345), Value.none, (Value.ref 346), (Value.ref 347), (Value.ref 348), (Value.int 631 0), (Value.int 176 0), (Value.str (Str.ofString "/claim/cut.py") 632)])) (List.toArray []))) ::
  (nat_lit 350, (Obj.mk (Value.type "function") none (Data.func (FuncData.mk (Str.ofString "build_list") (Str.ofString "Store.build_list") kA350.1 (FuncBody.stmts kB350.1) kS350.1 3 [] (Value.ref 343) Value.none Value.none (Value.str (Str.ofString "clausemill.store") 404) none (Value.ref 349) Value.none 0)) (List.toArray []))) ::
  (nat_lit 351, (Obj.mk (Value.type "tuple") none (Data.seq (List.toArray []) 0) (List.toArray []))) ::
  (nat_lit 353, (Obj.mk (Value.type "tuple") none (Data.seq (List.toArray [(Value.str (Str.ofString "self") 637), (Value.str (Str.ofString "cell") 638)]) 0) (List.toArray []))) ::
  (nat_lit 354, (Obj.mk (Value.type "tuple") none (Data.seq (List.toArray []) 0) (List.toArray []))) ::
  (nat_lit 356, (Obj.mk (Value.type "code") none (Data.fields (List.toArray [(Value.str (Str.ofString "list_cells") 634), (Value.str (Str.ofString "Store.list_cells") 635), (Value.str (Str.ofString "/claim/cut.py") 636), (Value.int 179 0), (Value.int 2 0), (Value.int 0 0), (Value.int 0 0), (Value.int 3 0), (Value.ref 351), (Value.bool Bool.true), (Value.int 181 0), (Value.ref 352), Value.none, (Value.ref 353), (Value.ref 354), (Value.ref 355), (Value.int 639 0), (Value.int 179 0), (Value.str (Str.ofString "/claim/cut.py") 640)])) (List.toArray []))) ::
  (nat_lit 357, (Obj.mk (Value.type "function") none (Data.func (FuncData.mk (Str.ofString "list_cells") (Str.ofString "Store.list_cells") kA357.1 (FuncBody.stmts kB357.1) kS357.1 3 [] Value.none Value.none Value.none (Value.str (Str.ofString "clausemill.store") 404) none (Value.ref 356) Value.none 0)) (List.toArray []))) ::
  (nat_lit 358, (Obj.mk (Value.type "tuple") none (Data.seq (List.toArray []) 0) (List.toArray []))) ::
  (nat_lit 360, (Obj.mk (Value.type "tuple") none (Data.seq (List.toArray [(Value.str (Str.ofString "self") 645), (Value.str (Str.ofString "term") 646), (Value.str (Str.ofString "table") 647)]) 0) (List.toArray []))) ::
  (nat_lit 361, (Obj.mk (Value.type "tuple") none (Data.seq (List.toArray []) 0) (List.toArray []))) ::
  (nat_lit 363, (Obj.mk (Value.type "code") none (Data.fields (List.toArray [(Value.str (Str.ofString "put_term") 642), (Value.str (Str.ofString "Store.put_term") 643), (Value.str (Str.ofString "/claim/cut.py") 644), (Value.int 182 0), (Value.int 3 0), (Value.int 0 0), (Value.int 0 0), (Value.int 3 0), (Value.ref 358), (Value.bool Bool.true), (Value.int 181 0), (Value.ref 359), Value.none, (Value.ref 360), (Value.ref 361), (Value.ref 362), (Value.int 648 0), (Value.int 182 0), (Value.str (Str.ofString "/claim/cut.py") 649)])) (List.toArray []))) ::
  (nat_lit 364, (Obj.mk (Value.type "function") none (Data.func (FuncData.mk (Str.ofString "put_term") (Str.ofString "Store.put_term") kA364.1 (FuncBody.stmts kB364.1) kS364.1 3 [] Value.none Value.none Value.none (Value.str (Str.ofString "clausemill.store") 404) none (Value.ref 363) Value.none 0)) (List.toArray []))) ::
  (nat_lit 365, (Obj.mk (Value.type "tuple") none (Data.seq (List.toArray []) 0) (List.toArray []))) ::
  (nat_lit 367, (Obj.mk (Value.type "tuple") none (Data.seq (List.toArray [(Value.str (Str.ofString "self") 654), (Value.str (Str.ofString "cell") 655), (Value.str (Str.ofString "table") 656)]) 0) (List.toArray []))) ::
  (nat_lit 368, (Obj.mk (Value.type "tuple") none (Data.seq (List.toArray []) 0) (List.toArray []))) ::
  (nat_lit 370, (Obj.mk (Value.type "code") none (Data.fields (List.toArray [(Value.str (Str.ofString "take_term") 651), (Value.str (Str.ofString "Store.take_term") 652), (Value.str (Str.ofString "/claim/cut.py") 653), (Value.int 185 0), (Value.int 3 0), (Value.int 0 0), (Value.int 0 0), (Value.int 3 0), (Value.ref 365), (Value.bool Bool.true), (Value.int 181 0), (Value.ref 366), Value.none, (Value.ref 367), (Value.ref 368), (Value.ref 369), (Value.int 657 0), (Value.int 185 0), (Value.str (Str.ofString "/claim/cut.py") 658)])) (List.toArray []))) ::
  (nat_lit 371, (Obj.mk (Value.type "function") none (Data.func (FuncData.mk (Str.ofString "take_term") (Str.ofString "Store.take_term") kA371.1 (FuncBody.stmts kB371.1) kS371.1 3 [] Value.none Value.none Value.none (Value.str (Str.ofString "clausemill.store") 404) none (Value.ref 370) Value.none 0)) (List.toArray []))) ::
  (nat_lit 372, (Obj.mk (Value.type "tuple") none (Data.seq (List.toArray []) 0) (List.toArray []))) ::
  (nat_lit 373, (Obj.mk (Value.type "dict") none (Data.dict (List.toArray [(DictEntry.mk (PyData.keyHash P (Str.ofString "__module__")) (Value.str (Str.ofString "__module__") 611) (Value.str (Str.ofString "clausemill.store") 404)), (DictEntry.mk (PyData.keyHash P (Str.ofString "__firstlineno__")) (Value.str (Str.ofString "__firstlineno__") 615) (Value.int 171 614)), (DictEntry.mk (PyData.keyHash P (Str.ofString "new_struct")) (Value.str (Str.ofString "new_struct") 624) (Value.ref 342)), (DictEntry.mk (PyData.keyHash P (Str.ofString "build_list")) (Value.str (Str.ofString "build_list") 633) (Value.ref 350)), (DictEntry.mk (PyData.keyHash P (Str.ofString "list_cells")) (Value.str (Str.ofString "list_cells") 641) (Value.ref 357)), (DictEntry.mk (PyData.keyHash P (Str.ofString "put_term")) (Value.str (Str.ofString "put_term") 650) (Value.ref 364)), (DictEntry.mk (PyData.keyHash P (Str.ofString "take_term")) (Value.str (Str.ofString "take_term") 659) (Value.ref 371)), (DictEntry.mk (PyData.keyHash P (Str.ofString "__static_attributes__")) (Value.str (Str.ofString "__static_attributes__") 660) (Value.ref 372)), (DictEntry.mk (PyData.keyHash P (Str.ofString "__doc__")) (Value.str (Str.ofString "__doc__") 661) Value.none)]) 2) (List.toArray []))) ::
  (nat_lit 374, (Obj.mk (Value.type "type") none (Data.cls (ClassData.mk (Str.ofString "Store") [(Value.ref 324)] [(Value.ref 374), (Value.ref 324), (Value.type "object")] 373 (Str.ofString "Store") Bool.true [] [] Bool.false none Bool.false)) (List.toArray [(some (Value.ref 329)), none, (some (Value.str (Str.ofString "Store") 604)), (some (Value.str (Str.ofString "Store") 612)), (some (Value.builtin "object.__new__")), (some (Value.bool Bool.true))]))) ::
  (nat_lit 384, (Obj.mk (Value.type "tuple") none (Data.seq (List.toArray [(Value.int 100000 696), (Value.bool Bool.true), (Value.int 4096 697)]) 0) (List.toArray []))) ::
  (nat_lit 385, (Obj.mk (Value.type "tuple") none (Data.seq (List.toArray []) 0) (List.toArray []))) ::
  (nat_lit 387, (Obj.mk (Value.type "tuple") none (Data.seq (List.toArray [(Value.str (Str.ofString "self") 701), (Value.str (Str.ofString "symbols") 702), (Value.str (Str.ofString "code") 703), (Value.str (Str.ofString "max_heap") 704), (Value.str (Str.ofString "occurs") 705), (Value.str (Str.ofString "max_bits") 706)]) 0) (List.toArray []))) ::
  (nat_lit 388, (Obj.mk (Value.type "tuple") none (Data.seq (List.toArray []) 0) (List.toArray []))) ::
  (nat_lit 390, (Obj.mk (Value.type "code") none (Data.fields (List.toArray [(Value.str (Str.ofString "__init__") 698), (Value.str (Str.ofString "Areas.__init__") 699), (Value.str (Str.ofString "/claim/cut.py") 700), (Value.int 199 0), (Value.int 6 0), (Value.int 0 0), (Value.int 0 0), (Value.int 3 0), (Value.ref 385), (Value.bool Bool.true), (Value.int 181 0), (Value.ref 386), Value.none, (Value.ref 387), (Value.ref 388), (Value.ref 389), (Value.int 707 0), (Value.int 199 0), (Value.str (Str.ofString "/claim/cut.py") 708)])) (List.toArray []))) ::
  (nat_lit 391, (Obj.mk (Value.type "function") none (Data.func (FuncData.mk (Str.ofString "__init__") (Str.ofString "Areas.__init__") kA391.1 (FuncBody.stmts kB391.1) kS391.1 3 [] (Value.ref 384) Value.none Value.none (Value.str (Str.ofString "clausemill.areas") 664) none (Value.ref 390) Value.none 0)) (List.toArray []))) ::
  (nat_lit 392, (Obj.mk (Value.type "tuple") none (Data.seq (List.toArray []) 0) (List.toArray []))) ::
  (nat_lit 394, (Obj.mk (Value.type "tuple") none (Data.seq (List.toArray [(Value.str (Str.ofString "self") 713)]) 0) (List.toArray []))) ::
  (nat_lit 395, (Obj.mk (Value.type "tuple") none (Data.seq (List.toArray []) 0) (List.toArray []))) ::
  (nat_lit 397, (Obj.mk (Value.type "code") none (Data.fields (List.toArray [(Value.str (Str.ofString "reset") 710), (Value.str (Str.ofString "Areas.reset") 711), (Value.str (Str.ofString "/claim/cut.py") 712), (Value.int 207 0), (Value.int 1 0), (Value.int 0 0), (Value.int 0 0), (Value.int 3 0), (Value.ref 392), (Value.bool Bool.true), (Value.int 181 0), (Value.ref 393), Value.none, (Value.ref 394), (Value.ref 395), (Value.ref 396), (Value.int 714 0), (Value.int 207 0), (Value.str (Str.ofString "/claim/cut.py") 715)])) (List.toArray []))) ::
  (nat_lit 398, (Obj.mk (Value.type "function") none (Data.func (FuncData.mk (Str.ofString "reset") (Str.ofString "Areas.reset") kA398.1 (FuncBody.stmts kB398.1) kS398.1 3 [] Value.none Value.none Value.none (Value.str (Str.ofString "clausemill.areas") 664) none (Value.ref 397) Value.none 0)) (List.toArray []))) ::
  (nat_lit 399, (Obj.mk (Value.type "tuple") none (Data.seq (List.toArray []) 0) (List.toArray []))) ::
  (nat_lit 401, (Obj.mk (Value.type "tuple") none (Data.seq (List.toArray [(Value.str (Str.ofString "self") 720), (Value.str (Str.ofString "number") 721), (Value.str (Str.ofString "cell") 722)]) 0) (List.toArray []))) ::
  (nat_lit 402, (Obj.mk (Value.type "tuple") none (Data.seq (List.toArray []) 0) (List.toArray []))) ::
  (nat_lit 404, (Obj.mk (Value.type "code") none (Data.fields (List.toArray [(Value.str (Str.ofString "set_x") 717), (Value.str (Str.ofString "Areas.set_x") 718), (Value.str (Str.ofString "/claim/cut.py") 719), (Value.int 222 0), (Value.int 3 0), (Value.int 0 0), (Value.int 0 0), (Value.int 3 0), (Value.ref 399), (Value.bool Bool.true), (Value.int 181 0), (Value.ref 400), Value.none, (Value.ref 401), (Value.ref 402), (Value.ref 403), (Value.int 723 0), (Value.int 222 0), (Value.str (Str.ofString "/claim/cut.py") 724)])) (List.toArray []))) ::
  (nat_lit 405, (Obj.mk (Value.type "function") none (Data.func (FuncData.mk (Str.ofString "set_x") (Str.ofString "Areas.set_x") kA405.1 (FuncBody.stmts kB405.1) kS405.1 3 [] Value.none Value.none Value.none (Value.str (Str.ofString "clausemill.areas") 664) none (Value.ref 404) Value.none 0)) (List.toArray []))) ::
  (nat_lit 406, (Obj.mk (Value.type "tuple") none (Data.seq (List.toArray []) 0) (List.toArray []))) ::
  (nat_lit 408, (Obj.mk (Value.type "tuple") none (Data.seq (List.toArray [(Value.str (Str.ofString "self") 729), (Value.str (Str.ofString "cells") 730)]) 0) (List.toArray []))) ::
  (nat_lit 409, (Obj.mk (Value.type "tuple") none (Data.seq (List.toArray []) 0) (List.toArray []))) ::
  (nat_lit 411, (Obj.mk (Value.type "code") none (Data.fields (List.toArray [(Value.str (Str.ofString "set_arguments") 726), (Value.str (Str.ofString "Areas.set_arguments") 727), (Value.str (Str.ofString "/claim/cut.py") 728), (Value.int 227 0), (Value.int 2 0), (Value.int 0 0), (Value.int 0 0), (Value.int 3 0), (Value.ref 406), (Value.bool Bool.true), (Value.int 181 0), (Value.ref 407), Value.none, (Value.ref 408), (Value.ref 409), (Value.ref 410), (Value.int 731 0), (Value.int 227 0), (Value.str (Str.ofString "/claim/cut.py") 732)])) (List.toArray []))) ::
  (nat_lit 412, (Obj.mk (Value.type "function") none (Data.func (FuncData.mk (Str.ofString "set_arguments") (Str.ofString "Areas.set_arguments") kA412.1 (FuncBody.stmts kB412.1) kS412.1 3 [] Value.none Value.none Value.none (Value.str (Str.ofString "clausemill.areas") 664) none (Value.ref 411) Value.none 0)) (List.toArray []))) ::
  (nat_lit 413, (Obj.mk (Value.type "tuple") none (Data.seq (List.toArray []) 0) (List.toArray []))) ::
  (nat_lit 415, (Obj.mk (Value.type "tuple") none (Data.seq (List.toArray [(Value.str (Str.ofString "self") 737), (Value.str (Str.ofString "i") 738)]) 0) (List.toArray []))) ::
  (nat_lit 416, (Obj.mk (Value.type "tuple") none (Data.seq (List.toArray []) 0) (List.toArray []))) ::
  (nat_lit 418, (Obj.mk (Value.type "code") none (Data.fields (List.toArray [(Value.str (Str.ofString "arg") 734), (Value.str (Str.ofString "Areas.arg") 735), (Value.str (Str.ofString "/claim/cut.py") 736), (Value.int 230 0), (Value.int 2 0), (Value.int 0 0), (Value.int 0 0), (Value.int 3 0), (Value.ref 413), (Value.bool Bool.true), (Value.int 181 0), (Value.ref 414), Value.none, (Value.ref 415), (Value.ref 416), (Value.ref 417), (Value.int 739 0), (Value.int 230 0), (Value.str (Str.ofString "/claim/cut.py") 740)])) (List.toArray []))) ::
  (nat_lit 419, (Obj.mk (Value.type "function") none (Data.func (FuncData.mk (Str.ofString "arg") (Str.ofString "Areas.arg") kA419.1 (FuncBody.stmts kB419.1) kS419.1 3 [] Value.none Value.none Value.none (Value.str (Str.ofString "clausemill.areas") 664) none (Value.ref 418) Value.none 0)) (List.toArray []))) ::
  (nat_lit 420, (Obj.mk (Value.type "tuple") none (Data.seq (List.toArray []) 0) (List.toArray []))) ::
  (nat_lit 422, (Obj.mk (Value.type "tuple") none (Data.seq (List.toArray [(Value.str (Str.ofString "self") 745), (Value.str (Str.ofString "c1") 746), (Value.str (Str.ofString "c2") 747)]) 0) (List.toArray []))) ::
  (nat_lit 423, (Obj.mk (Value.type "tuple") none (Data.seq (List.toArray []) 0) (List.toArray []))) ::
  (nat_lit 425, (Obj.mk (Value.type "code") none (Data.fields (List.toArray [(Value.str (Str.ofString "unify") 742), (Value.str (Str.ofString "Areas.unify") 743), (Value.str (Str.ofString "/claim/cut.py") 744), (Value.int 233 0), (Value.int 3 0), (Value.int 0 0), (Value.int 0 0), (Value.int 3 0), (Value.ref 420), (Value.bool Bool.true), (Value.int 181 0), (Value.ref 421), Value.none, (Value.ref 422), (Value.ref 423), (Value.ref 424), (Value.int 748 0), (Value.int 233 0), (Value.str (Str.ofString "/claim/cut.py") 749)])) (List.toArray []))) ::
  (nat_lit 426, (Obj.mk (Value.type "function") none (Data.func (FuncData.mk (Str.ofString "unify") (Str.ofString "Areas.unify") kA426.1 (FuncBody.stmts kB426.1) kS426.1 3 [] Value.none Value.none Value.none (Value.str (Str.ofString "clausemill.areas") 664) none (Value.ref 425) Value.none 0)) (List.toArray []))) ::
  (nat_lit 427, (Obj.mk (Value.type "tuple") none (Data.seq (List.toArray []) 0) (List.toArray []))) ::
  (nat_lit 429, (Obj.mk (Value.type "tuple") none (Data.seq (List.toArray [(Value.str (Str.ofString "self") 754), (Value.str (Str.ofString "cell") 755)]) 0) (List.toArray []))) ::
  (nat_lit 430, (Obj.mk (Value.type "tuple") none (Data.seq (List.toArray []) 0) (List.toArray []))) ::
  (nat_lit 432, (Obj.mk (Value.type "code") none (Data.fields (List.toArray [(Value.str (Str.ofString "take") 751), (Value.str (Str.ofString "Areas.take") 752), (Value.str (Str.ofString "/claim/cut.py") 753), (Value.int 236 0), (Value.int 2 0), (Value.int 0 0), (Value.int 0 0), (Value.int 3 0), (Value.ref 427), (Value.bool Bool.true), (Value.int 181 0), (Value.ref 428), Value.none, (Value.ref 429), (Value.ref 430), (Value.ref 431), (Value.int 756 0), (Value.int 236 0), (Value.str (Str.ofString "/claim/cut.py") 757)])) (List.toArray []))) ::
  (nat_lit 433, (Obj.mk (Value.type "function") none (Data.func (FuncData.mk (Str.ofString "take") (Str.ofString "Areas.take") kA433.1 (FuncBody.stmts kB433.1) kS433.1 3 [] Value.none Value.none Value.none (Value.str (Str.ofString "clausemill.areas") 664) none (Value.ref 432) Value.none 0)) (List.toArray []))) ::
  (nat_lit 434, (Obj.mk (Value.type "tuple") none (Data.seq (List.toArray []) 0) (List.toArray []))) ::
  (nat_lit 436, (Obj.mk (Value.type "tuple") none (Data.seq (List.toArray [(Value.str (Str.ofString "self") 762), (Value.str (Str.ofString "term") 763)]) 0) (List.toArray []))) ::
  (nat_lit 437, (Obj.mk (Value.type "tuple") none (Data.seq (List.toArray []) 0) (List.toArray []))) ::
  (nat_lit 439, (Obj.mk (Value.type "code") none (Data.fields (List.toArray [(Value.str (Str.ofString "put") 759), (Value.str (Str.ofString "Areas.put") 760), (Value.str (Str.ofString "/claim/cut.py") 761), (Value.int 239 0), (Value.int 2 0), (Value.int 0 0), (Value.int 0 0), (Value.int 3 0), (Value.ref 434), (Value.bool Bool.true), (Value.int 181 0), (Value.ref 435), Value.none, (Value.ref 436), (Value.ref 437), (Value.ref 438), (Value.int 764 0), (Value.int 239 0), (Value.str (Str.ofString "/claim/cut.py") 765)])) (List.toArray []))) ::
  (nat_lit 440, (Obj.mk (Value.type "function") none (Data.func (FuncData.mk (Str.ofString "put") (Str.ofString "Areas.put") kA440.1 (FuncBody.stmts kB440.1) kS440.1 3 [] Value.none Value.none Value.none (Value.str (Str.ofString "clausemill.areas") 664) none (Value.ref 439) Value.none 0)) (List.toArray []))) ::
  (nat_lit 441, (Obj.mk (Value.type "tuple") none (Data.seq (List.toArray []) 0) (List.toArray []))) ::
  (nat_lit 443, (Obj.mk (Value.type "tuple") none (Data.seq (List.toArray [(Value.str (Str.ofString "self") 770)]) 0) (List.toArray []))) ::
  (nat_lit 444, (Obj.mk (Value.type "tuple") none (Data.seq (List.toArray []) 0) (List.toArray []))) ::
  (nat_lit 446, (Obj.mk (Value.type "code") none (Data.fields (List.toArray [(Value.str (Str.ofString "top") 767), (Value.str (Str.ofString "Areas.top") 768), (Value.str (Str.ofString "/claim/cut.py") 769), (Value.int 242 0), (Value.int 1 0), (Value.int 0 0), (Value.int 0 0), (Value.int 3 0), (Value.ref 441), (Value.bool Bool.true), (Value.int 181 0), (Value.ref 442), Value.none, (Value.ref 443), (Value.ref 444), (Value.ref 445), (Value.int 771 0), (Value.int 242 0), (Value.str (Str.ofString "/claim/cut.py") 772)])) (List.toArray []))) ::
  (nat_lit 447, (Obj.mk (Value.type "function") none (Data.func (FuncData.mk (Str.ofString "top") (Str.ofString "Areas.top") kA447.1 (FuncBody.stmts kB447.1) kS447.1 3 [] Value.none Value.none Value.none (Value.str (Str.ofString "clausemill.areas") 664) none (Value.ref 446) Value.none 0)) (List.toArray []))) ::
  (nat_lit 448, (Obj.mk (Value.type "tuple") none (Data.seq (List.toArray []) 0) (List.toArray []))) ::
  (nat_lit 450, (Obj.mk (Value.type "tuple") none (Data.seq (List.toArray [(Value.str (Str.ofString "self") 777), (Value.str (Str.ofString "size") 778), (Value.str (Str.ofString "place") 779), (Value.str (Str.ofString "store") 780), (Value.str (Str.ofString "number") 781)]) 0) (List.toArray []))) ::
  (nat_lit 451, (Obj.mk (Value.type "tuple") none (Data.seq (List.toArray []) 0) (List.toArray []))) ::
  (nat_lit 453, (Obj.mk (Value.type "code") none (Data.fields (List.toArray [(Value.str (Str.ofString "push_environment") 774), (Value.str (Str.ofString "Areas.push_environment") 775), (Value.str (Str.ofString "/claim/cut.py") 776), (Value.int 249 0), (Value.int 2 0), (Value.int 0 0), (Value.int 0 0), (Value.int 3 0), (Value.ref 448), (Value.bool Bool.true), (Value.int 181 0), (Value.ref 449), Value.none, (Value.ref 450), (Value.ref 451), (Value.ref 452), (Value.int 782 0), (Value.int 249 0), (Value.str (Str.ofString "/claim/cut.py") 783)])) (List.toArray []))) ::
  (nat_lit 454, (Obj.mk (Value.type "function") none (Data.func (FuncData.mk (Str.ofString "push_environment") (Str.ofString "Areas.push_environment") kA454.1 (FuncBody.stmts kB454.1) kS454.1 3 [] Value.none Value.none Value.none (Value.str (Str.ofString "clausemill.areas") 664) none (Value.ref 453) Value.none 0)) (List.toArray []))) ::
  (nat_lit 455, (Obj.mk (Value.type "tuple") none (Data.seq (List.toArray []) 0) (List.toArray []))) ::
  (nat_lit 457, (Obj.mk (Value.type "tuple") none (Data.seq (List.toArray [(Value.str (Str.ofString "self") 788), (Value.str (Str.ofString "stack") 789)]) 0) (List.toArray []))) ::
  (nat_lit 458, (Obj.mk (Value.type "tuple") none (Data.seq (List.toArray []) 0) (List.toArray []))) ::
  (nat_lit 460, (Obj.mk (Value.type "code") none (Data.fields (List.toArray [(Value.str (Str.ofString "pop_environment") 785), (Value.str (Str.ofString "Areas.pop_environment") 786), (Value.str (Str.ofString "/claim/cut.py") 787), (Value.int 258 0), (Value.int 1 0), (Value.int 0 0), (Value.int 0 0), (Value.int 3 0), (Value.ref 455), (Value.bool Bool.true), (Value.int 181 0), (Value.ref 456), Value.none, (Value.ref 457), (Value.ref 458), (Value.ref 459), (Value.int 790 0), (Value.int 258 0), (Value.str (Str.ofString "/claim/cut.py") 791)])) (List.toArray []))) ::
  (nat_lit 461, (Obj.mk (Value.type "function") none (Data.func (FuncData.mk (Str.ofString "pop_environment") (Str.ofString "Areas.pop_environment") kA461.1 (FuncBody.stmts kB461.1) kS461.1 3 [] Value.none Value.none Value.none (Value.str (Str.ofString "clausemill.areas") 664) none (Value.ref 460) Value.none 0)) (List.toArray []))) ::
  (nat_lit 462, (Obj.mk (Value.type "tuple") none (Data.seq (List.toArray []) 0) (List.toArray []))) ::
  (nat_lit 464, (Obj.mk (Value.type "tuple") none (Data.seq (List.toArray [(Value.str (Str.ofString "self") 796), (Value.str (Str.ofString "index") 797)]) 0) (List.toArray []))) ::
  (nat_lit 465, (Obj.mk (Value.type "tuple") none (Data.seq (List.toArray []) 0) (List.toArray []))) ::
  (nat_lit 467, (Obj.mk (Value.type "code") none (Data.fields (List.toArray [(Value.str (Str.ofString "in_chain") 793), (Value.str (Str.ofString "Areas.in_chain") 794), (Value.str (Str.ofString "/claim/cut.py") 795), (Value.int 263 0), (Value.int 2 0), (Value.int 0 0), (Value.int 0 0), (Value.int 3 0), (Value.ref 462), (Value.bool Bool.true), (Value.int 181 0), (Value.ref 463), Value.none, (Value.ref 464), (Value.ref 465), (Value.ref 466), (Value.int 798 0), (Value.int 263 0), (Value.str (Str.ofString "/claim/cut.py") 799)])) (List.toArray []))) ::
  (nat_lit 468, (Obj.mk (Value.type "function") none (Data.func (FuncData.mk (Str.ofString "in_chain") (Str.ofString "Areas.in_chain") kA468.1 (FuncBody.stmts kB468.1) kS468.1 3 [] Value.none Value.none Value.none (Value.str (Str.ofString "clausemill.areas") 664) none (Value.ref 467) Value.none 0)) (List.toArray []))) ::
  (nat_lit 469, (Obj.mk (Value.type "tuple") none (Data.seq (List.toArray []) 0) (List.toArray []))) ::
  (nat_lit 471, (Obj.mk (Value.type "tuple") none (Data.seq (List.toArray [(Value.str (Str.ofString "self") 804), (Value.str (Str.ofString "b") 805), (Value.str (Str.ofString "store") 806)]) 0) (List.toArray []))) ::
  (nat_lit 472, (Obj.mk (Value.type "tuple") none (Data.seq (List.toArray []) 0) (List.toArray []))) ::
  (nat_lit 474, (Obj.mk (Value.type "code") none (Data.fields (List.toArray [(Value.str (Str.ofString "set_choice") 801), (Value.str (Str.ofString "Areas.set_choice") 802), (Value.str (Str.ofString "/claim/cut.py") 803), (Value.int 266 0), (Value.int 2 0), (Value.int 0 0), (Value.int 0 0), (Value.int 3 0), (Value.ref 469), (Value.bool Bool.true), (Value.int 181 0), (Value.ref 470), Value.none, (Value.ref 471), (Value.ref 472), (Value.ref 473), (Value.int 807 0), (Value.int 266 0), (Value.str (Str.ofString "/claim/cut.py") 808)])) (List.toArray []))) ::
  (nat_lit 475, (Obj.mk (Value.type "function") none (Data.func (FuncData.mk (Str.ofString "set_choice") (Str.ofString "Areas.set_choice") kA475.1 (FuncBody.stmts kB475.1) kS475.1 3 [] Value.none Value.none Value.none (Value.str (Str.ofString "clausemill.areas") 664) none (Value.ref 474) Value.none 0)) (List.toArray []))) ::
  (nat_lit 476, (Obj.mk (Value.type "tuple") none (Data.seq (List.toArray []) 0) (List.toArray []))) ::
  (nat_lit 478, (Obj.mk (Value.type "tuple") none (Data.seq (List.toArray [(Value.str (Str.ofString "self") 813), (Value.str (Str.ofString "cells") 814), (Value.str (Str.ofString "alternative") 815), (Value.str (Str.ofString "store") 816), (Value.str (Str.ofString "place") 817), (Value.str (Str.ofString "count") 818), (Value.str (Str.ofString "at") 819), (Value.str (Str.ofString "cell") 820)]) 0) (List.toArray []))) ::
  (nat_lit 479, (Obj.mk (Value.type "tuple") none (Data.seq (List.toArray []) 0) (List.toArray []))) ::
  (nat_lit 481, (Obj.mk (Value.type "code") none (Data.fields (List.toArray [(Value.str (Str.ofString "push_choice") 810), (Value.str (Str.ofString "Areas.push_choice") 811), (Value.str (Str.ofString "/claim/cut.py") 812), (Value.int 276 0), (Value.int 3 0), (Value.int 0 0), (Value.int 0 0), (Value.int 3 0), (Value.ref 476), (Value.bool Bool.true), (Value.int 181 0), (Value.ref 477), Value.none, (Value.ref 478), (Value.ref 479), (Value.ref 480), (Value.int 821 0), (Value.int 276 0), (Value.str (Str.ofString "/claim/cut.py") 822)])) (List.toArray []))) ::
  (nat_lit 482, (Obj.mk (Value.type "function") none (Data.func (FuncData.mk (Str.ofString "push_choice") (Str.ofString "Areas.push_choice") kA482.1 (FuncBody.stmts kB482.1) kS482.1 3 [] Value.none Value.none Value.none (Value.str (Str.ofString "clausemill.areas") 664) none (Value.ref 481) Value.none 0)) (List.toArray []))) ::
  (nat_lit 483, (Obj.mk (Value.type "tuple") none (Data.seq (List.toArray []) 0) (List.toArray []))) ::
  (nat_lit 485, (Obj.mk (Value.type "tuple") none (Data.seq (List.toArray [(Value.str (Str.ofString "self") 827), (Value.str (Str.ofString "address") 828), (Value.str (Str.ofString "stack") 829)]) 0) (List.toArray []))) ::
  (nat_lit 486, (Obj.mk (Value.type "tuple") none (Data.seq (List.toArray []) 0) (List.toArray []))) ::
  (nat_lit 488, (Obj.mk (Value.type "code") none (Data.fields (List.toArray [(Value.str (Str.ofString "set_alternative") 824), (Value.str (Str.ofString "Areas.set_alternative") 825), (Value.str (Str.ofString "/claim/cut.py") 826), (Value.int 294 0), (Value.int 2 0), (Value.int 0 0), (Value.int 0 0), (Value.int 3 0), (Value.ref 483), (Value.bool Bool.true), (Value.int 181 0), (Value.ref 484), Value.none, (Value.ref 485), (Value.ref 486), (Value.ref 487), (Value.int 830 0), (Value.int 294 0), (Value.str (Str.ofString "/claim/cut.py") 831)])) (List.toArray []))) ::
  (nat_lit 489, (Obj.mk (Value.type "function") none (Data.func (FuncData.mk (Str.ofString "set_alternative") (Str.ofString "Areas.set_alternative") kA489.1 (FuncBody.stmts kB489.1) kS489.1 3 [] Value.none Value.none Value.none (Value.str (Str.ofString "clausemill.areas") 664) none (Value.ref 488) Value.none 0)) (List.toArray []))) ::
  (nat_lit 490, (Obj.mk (Value.type "tuple") none (Data.seq (List.toArray []) 0) (List.toArray []))) ::
  (nat_lit 492, (Obj.mk (Value.type "tuple") none (Data.seq (List.toArray [(Value.str (Str.ofString "self") 836), (Value.str (Str.ofString "part") 837), (Value.str (Str.ofString "stack") 838)]) 0) (List.toArray []))) ::
  (nat_lit 493, (Obj.mk (Value.type "tuple") none (Data.seq (List.toArray []) 0) (List.toArray []))) ::
  (nat_lit 495, (Obj.mk (Value.type "code") none (Data.fields (List.toArray [(Value.str (Str.ofString "choice_part") 833), (Value.str (Str.ofString "Areas.choice_part") 834), (Value.str (Str.ofString "/claim/cut.py") 835), (Value.int 298 0), (Value.int 2 0), (Value.int 0 0), (Value.int 0 0), (Value.int 3 0), (Value.ref 490), (Value.bool Bool.true), (Value.int 181 0), (Value.ref 491), Value.none, (Value.ref 492), (Value.ref 493), (Value.ref 494), (Value.int 839 0), (Value.int 298 0), (Value.str (Str.ofString "/claim/cut.py") 840)])) (List.toArray []))) ::
  (nat_lit 496, (Obj.mk (Value.type "function") none (Data.func (FuncData.mk (Str.ofString "choice_part") (Str.ofString "Areas.choice_part") kA496.1 (FuncBody.stmts kB496.1) kS496.1 3 [] Value.none Value.none Value.none (Value.str (Str.ofString "clausemill.areas") 664) none (Value.ref 495) Value.none 0)) (List.toArray []))) ::
  (nat_lit 497, (Obj.mk (Value.type "tuple") none (Data.seq (List.toArray []) 0) (List.toArray []))) ::
  (nat_lit 499, (Obj.mk (Value.type "tuple") none (Data.seq (List.toArray [(Value.str (Str.ofString "self") 845), (Value.str (Str.ofString "store") 846), (Value.str (Str.ofString "count") 847), (Value.str (Str.ofString "i") 848)]) 0) (List.toArray []))) ::
  (nat_lit 500, (Obj.mk (Value.type "tuple") none (Data.seq (List.toArray []) 0) (List.toArray []))) ::
  (nat_lit 502, (Obj.mk (Value.type "code") none (Data.fields (List.toArray [(Value.str (Str.ofString "restore_choice") 842), (Value.str (Str.ofString "Areas.restore_choice") 843), (Value.str (Str.ofString "/claim/cut.py") 844), (Value.int 302 0), (Value.int 1 0), (Value.int 0 0), (Value.int 0 0), (Value.int 3 0), (Value.ref 497), (Value.bool Bool.true), (Value.int 181 0), (Value.ref 498), Value.none, (Value.ref 499), (Value.ref 500), (Value.ref 501), (Value.int 849 0), (Value.int 302 0), (Value.str (Str.ofString "/claim/cut.py") 850)])) (List.toArray []))) ::
  (nat_lit 503, (Obj.mk (Value.type "function") none (Data.func (FuncData.mk (Str.ofString "restore_choice") (Str.ofString "Areas.restore_choice") kA503.1 (FuncBody.stmts kB503.1) kS503.1 3 [] Value.none Value.none Value.none (Value.str (Str.ofString "clausemill.areas") 664) none (Value.ref 502) Value.none 0)) (List.toArray []))) ::
  (nat_lit 504, (Obj.mk (Value.type "tuple") none (Data.seq (List.toArray []) 0) (List.toArray []))) ::
  (nat_lit 506, (Obj.mk (Value.type "tuple") none (Data.seq (List.toArray [(Value.str (Str.ofString "self") 855)]) 0) (List.toArray []))) ::
  (nat_lit 507, (Obj.mk (Value.type "tuple") none (Data.seq (List.toArray []) 0) (List.toArray []))) ::
  (nat_lit 509, (Obj.mk (Value.type "code") none (Data.fields (List.toArray [(Value.str (Str.ofString "pop_choice") 852), (Value.str (Str.ofString "Areas.pop_choice") 853), (Value.str (Str.ofString "/claim/cut.py") 854), (Value.int 312 0), (Value.int 1 0), (Value.int 0 0), (Value.int 0 0), (Value.int 3 0), (Value.ref 504), (Value.bool Bool.true), (Value.int 181 0), (Value.ref 505), Value.none, (Value.ref 506), (Value.ref 507), (Value.ref 508), (Value.int 856 0), (Value.int 312 0), (Value.str (Str.ofString "/claim/cut.py") 857)])) (List.toArray []))) ::
  (nat_lit 510, (Obj.mk (Value.type "function") none (Data.func (FuncData.mk (Str.ofString "pop_choice") (Str.ofString "Areas.pop_choice") kA510.1 (FuncBody.stmts kB510.1) kS510.1 3 [] Value.none Value.none Value.none (Value.str (Str.ofString "clausemill.areas") 664) none (Value.ref 509) Value.none 0)) (List.toArray []))) ::
  (nat_lit 511, (Obj.mk (Value.type "tuple") none (Data.seq (List.toArray []) 0) (List.toArray []))) ::
  (nat_lit 513, (Obj.mk (Value.type "tuple") none (Data.seq (List.toArray [(Value.str (Str.ofString "self") 862), (Value.str (Str.ofString "b") 863)]) 0) (List.toArray []))) ::
  (nat_lit 514, (Obj.mk (Value.type "tuple") none (Data.seq (List.toArray []) 0) (List.toArray []))) ::
  (nat_lit 516, (Obj.mk (Value.type "code") none (Data.fields (List.toArray [(Value.str (Str.ofString "cut_back") 859), (Value.str (Str.ofString "Areas.cut_back") 860), (Value.str (Str.ofString "/claim/cut.py") 861), (Value.int 315 0), (Value.int 2 0), (Value.int 0 0), (Value.int 0 0), (Value.int 3 0), (Value.ref 511), (Value.bool Bool.true), (Value.int 181 0), (Value.ref 512), Value.none, (Value.ref 513), (Value.ref 514), (Value.ref 515), (Value.int 864 0), (Value.int 315 0), (Value.str (Str.ofString "/claim/cut.py") 865)])) (List.toArray []))) ::
  (nat_lit 517, (Obj.mk (Value.type "function") none (Data.func (FuncData.mk (Str.ofString "cut_back") (Str.ofString "Areas.cut_back") kA517.1 (FuncBody.stmts kB517.1) kS517.1 3 [] Value.none Value.none Value.none (Value.str (Str.ofString "clausemill.areas") 664) none (Value.ref 516) Value.none 0)) (List.toArray []))) ::
  (nat_lit 518, (Obj.mk (Value.type "tuple") none (Data.seq (List.toArray []) 0) (List.toArray []))) ::
  (nat_lit 520, (Obj.mk (Value.type "tuple") none (Data.seq (List.toArray [(Value.str (Str.ofString "self") 870), (Value.str (Str.ofString "stack") 871), (Value.str (Str.ofString "found") 872), (Value.str (Str.ofString "b") 873)]) 0) (List.toArray []))) ::
  (nat_lit 521, (Obj.mk (Value.type "tuple") none (Data.seq (List.toArray []) 0) (List.toArray []))) ::
  (nat_lit 523, (Obj.mk (Value.type "code") none (Data.fields (List.toArray [(Value.str (Str.ofString "choices") 867), (Value.str (Str.ofString "Areas.choices") 868), (Value.str (Str.ofString "/claim/cut.py") 869), (Value.int 319 0), (Value.int 1 0), (Value.int 0 0), (Value.int 0 0), (Value.int 3 0), (Value.ref 518), (Value.bool Bool.true), (Value.int 181 0), (Value.ref 519), Value.none, (Value.ref 520), (Value.ref 521), (Value.ref 522), (Value.int 874 0), (Value.int 319 0), (Value.str (Str.ofString "/claim/cut.py") 875)])) (List.toArray []))) ::
  (nat_lit 524, (Obj.mk (Value.type "function") none (Data.func (FuncData.mk (Str.ofString "choices") (Str.ofString "Areas.choices") kA524.1 (FuncBody.stmts kB524.1) kS524.1 3 [] Value.none Value.none Value.none (Value.str (Str.ofString "clausemill.areas") 664) none (Value.ref 523) Value.none 0)) (List.toArray []))) ::
  (nat_lit 525, (Obj.mk (Value.type "tuple") none (Data.seq (List.toArray []) 0) (List.toArray []))) ::
  (nat_lit 527, (Obj.mk (Value.type "tuple") none (Data.seq (List.toArray [(Value.str (Str.ofString "self") 880), (Value.str (Str.ofString "found") 881), (Value.str (Str.ofString "e") 882)]) 0) (List.toArray []))) ::
  (nat_lit 528, (Obj.mk (Value.type "tuple") none (Data.seq (List.toArray []) 0) (List.toArray []))) ::
  (nat_lit 530, (Obj.mk (Value.type "code") none (Data.fields (List.toArray [(Value.str (Str.ofString "environments") 877), (Value.str (Str.ofString "Areas.environments") 878), (Value.str (Str.ofString "/claim/cut.py") 879), (Value.int 328 0), (Value.int 1 0), (Value.int 0 0), (Value.int 0 0), (Value.int 3 0), (Value.ref 525), (Value.bool Bool.true), (Value.int 181 0), (Value.ref 526), Value.none, (Value.ref 527), (Value.ref 528), (Value.ref 529), (Value.int 883 0), (Value.int 328 0), (Value.str (Str.ofString "/claim/cut.py") 884)])) (List.toArray []))) ::
  (nat_lit 531, (Obj.mk (Value.type "function") none (Data.func (FuncData.mk (Str.ofString "environments") (Str.ofString "Areas.environments") kA531.1 (FuncBody.stmts kB531.1) kS531.1 3 [] Value.none Value.none Value.none (Value.str (Str.ofString "clausemill.areas") 664) none (Value.ref 530) Value.none 0)) (List.toArray []))) ::
  (nat_lit 532, (Obj.mk (Value.type "tuple") none (Data.seq (List.toArray [(Value.str (Str.ofString "b") 886), (Value.str (Str.ofString "b0") 887), (Value.str (Str.ofString "bags") 888), (Value.str (Str.ofString "code") 889), (Value.str (Str.ofString "collect_wanted") 890), (Value.str (Str.ofString "cp") 891), (Value.str (Str.ofString "e") 892), (Value.str (Str.ofString "guard") 893), (Value.str (Str.ofString "max_bits") 894), (Value.str (Str.ofString "max_heap") 895), (Value.str (Str.ofString "mode") 896), (Value.str (Str.ofString "occurs") 897), (Value.str (Str.ofString "p") 898), (Value.str (Str.ofString "roots") 899), (Value.str (Str.ofString "s") 900), (Value.str (Str.ofString "store") 901), (Value.str (Str.ofString "symbols") 902), (Value.str (Str.ofString "x") 903)]) 0) (List.toArray []))) ::
  (nat_lit 533, (Obj.mk (Value.type "dict") none (Data.dict (List.toArray [(DictEntry.mk (PyData.keyHash P (Str.ofString "__module__")) (Value.str (Str.ofString "__module__") 691) (Value.str (Str.ofString "clausemill.areas") 664)), (DictEntry.mk (PyData.keyHash P (Str.ofString "__firstlineno__")) (Value.str (Str.ofString "__firstlineno__") 695) (Value.int 197 694)), (DictEntry.mk (PyData.keyHash P (Str.ofString "__init__")) (Value.str (Str.ofString "__init__") 709) (Value.ref 391)), (DictEntry.mk (PyData.keyHash P (Str.ofString "reset")) (Value.str (Str.ofString "reset") 716) (Value.ref 398)), (DictEntry.mk (PyData.keyHash P (Str.ofString "set_x")) (Value.str (Str.ofString "set_x") 725) (Value.ref 405)), (DictEntry.mk (PyData.keyHash P (Str.ofString "set_arguments")) (Value.str (Str.ofString "set_arguments") 733) (Value.ref 412)), (DictEntry.mk (PyData.keyHash P (Str.ofString "arg")) (Value.str (Str.ofString "arg") 741) (Value.ref 419)), (DictEntry.mk (PyData.keyHash P (Str.ofString "unify")) (Value.str (Str.ofString "unify") 750) (Value.ref 426)), (DictEntry.mk (PyData.keyHash P (Str.ofString "take")) (Value.str (Str.ofString "take") 758) (Value.ref 433)), (DictEntry.mk (PyData.keyHash P (Str.ofString "put")) (Value.str (Str.ofString "put") 766) (Value.ref 440)), (DictEntry.mk (PyData.keyHash P (Str.ofString "top")) (Value.str (Str.ofString "top") 773) (Value.ref 447)), (DictEntry.mk (PyData.keyHash P (Str.ofString "push_environment")) (Value.str (Str.ofString "push_environment") 784) (Value.ref 454)), (DictEntry.mk (PyData.keyHash P (Str.ofString "pop_environment")) (Value.str (Str.ofString "pop_environment") 792) (Value.ref 461)), (DictEntry.mk (PyData.keyHash P (Str.ofString "in_chain")) (Value.str (Str.ofString "in_chain") 800) (Value.ref 468)), (DictEntry.mk (PyData.keyHash P (Str.ofString "set_choice")) (Value.str (Str.ofString "set_choice") 809) (Value.ref 475)), (DictEntry.mk (PyData.keyHash P (Str.ofString "push_choice")) (Value.str (Str.ofString "push_choice") 823) (Value.ref 482)), (DictEntry.mk (PyData.keyHash P (Str.ofString "set_alternative")) (Value.str (Str.ofString "set_alternative") 832) (Value.ref 489)), (DictEntry.mk (PyData.keyHash P (Str.ofString "choice_part")) (Value.str (Str.ofString "choice_part") 841) (Value.ref 496)), (DictEntry.mk (PyData.keyHash P (Str.ofString "restore_choice")) (Value.str (Str.ofString "restore_choice") 851) (Value.ref 503)), (DictEntry.mk (PyData.keyHash P (Str.ofString "pop_choice")) (Value.str (Str.ofString "pop_choice") 858) (Value.ref 510)), (DictEntry.mk (PyData.keyHash P (Str.ofString "cut_back")) (Value.str (Str.ofString "cut_back") 866) (Value.ref 517)), (DictEntry.mk (PyData.keyHash P (Str.ofString "choices")) (Value.str (Str.ofString "choices") 876) (Value.ref 524)), (DictEntry.mk (PyData.keyHash P (Str.ofString "environments")) (Value.str (Str.ofString "environments") 885) (Value.ref 531)), (DictEntry.mk (PyData.keyHash P (Str.ofString "__static_attributes__")) (Value.str (Str.ofString "__static_attributes__") 904) (Value.ref 532)), (DictEntry.mk (PyData.keyHash P (Str.ofString "__dict__")) (Value.str (Str.ofString "__dict__") 906) (Value.ref 535)), (DictEntry.mk (PyData.keyHash P (Str.ofString "__weakref__")) (Value.str (Str.ofString "__weakref__") 908) (Value.ref 536)), (DictEntry.mk (PyData.keyHash P (Str.ofString "__doc__")) (Value.str (Str.ofString "__doc__") 909) Value.none)]) 4) (List.toArray []))) ::
  (nat_lit 534, (Obj.mk (Value.type "type") none (Data.cls (ClassData.mk (Str.ofString "Areas") [(Value.type "object")] [(Value.ref 534), (Value.type "object")] 533 (Str.ofString "Areas") Bool.true [] [] Bool.false none Bool.false)) (List.toArray [none, none, (some (Value.str (Str.ofString "Areas") 684)), (some (Value.str (Str.ofString "Areas") 692)), (some (Value.builtin "object.__new__")), (some (Value.bool Bool.true))]))) ::
  (nat_lit 535, (Obj.mk (Value.type "getset_descriptor") none (Data.fields (List.toArray [(Value.str (Str.ofString "__dict__") 905), (Value.ref 534), (Value.builtin "function.__dict__"), (Value.builtin "function.__dict__#set")])) (List.toArray []))) ::
  (nat_lit 536, (Obj.mk (Value.type "getset_descriptor") none (Data.fields (List.toArray [(Value.str (Str.ofString "__weakref__") 907), (Value.ref 534), (Value.builtin "ExceptionGroup.__weakref__"), Value.none])) (List.toArray []))) ::
  (nat_lit 539, (Obj.mk (Value.type "tuple") none (Data.seq (List.toArray []) 0) (List.toArray []))) ::
  (nat_lit 541, (Obj.mk (Value.type "tuple") none (Data.seq (List.toArray [(Value.str (Str.ofString "script") 917), (Value.str (Str.ofString "strip") 918), (Value.str (Str.ofString "cell") 919), (Value.str (Str.ofString "left_of") 920), (Value.str (Str.ofString "lap") 921)]) 0) (List.toArray []))) ::
  (nat_lit 542, (Obj.mk (Value.type "tuple") none (Data.seq (List.toArray []) 0) (List.toArray []))) ::
  (nat_lit 544, (Obj.mk (Value.type "code") none (Data.fields (List.toArray [(Value.str (Str.ofString "_law_digits") 914), (Value.str (Str.ofString "_law_digits") 915), (Value.str (Str.ofString "/claim/cut.py") 916), (Value.int 336 0), (Value.int 1 0), (Value.int 0 0), (Value.int 0 0), (Value.int 3 0), (Value.ref 539), (Value.bool Bool.true), (Value.int 181 0), (Value.ref 540), Value.none, (Value.ref 541), (Value.ref 542), (Value.ref 543), (Value.int 922 0), (Value.int 336 0), (Value.str (Str.ofString "/claim/cut.py") 923)])) (List.toArray []))) ::
  (nat_lit 545, (Obj.mk (Value.type "function") none (Data.func (FuncData.mk (Str.ofString "_law_digits") (Str.ofString "_law_digits") kA545.1 (FuncBody.stmts kB545.1) kS545.1 3 [] Value.none Value.none Value.none (Value.str (Str.ofString "law_ok0027_01") 912) none (Value.ref 544) Value.none 0)) (List.toArray []))) ::
  (nat_lit 546, (Obj.mk (Value.type "tuple") none (Data.seq (List.toArray []) 0) (List.toArray []))) ::
  (nat_lit 548, (Obj.mk (Value.type "tuple") none (Data.seq (List.toArray [(Value.str (Str.ofString "strip") 928), (Value.str (Str.ofString "many") 929)]) 0) (List.toArray []))) ::
  (nat_lit 549, (Obj.mk (Value.type "tuple") none (Data.seq (List.toArray []) 0) (List.toArray []))) ::
  (nat_lit 551, (Obj.mk (Value.type "code") none (Data.fields (List.toArray [(Value.str (Str.ofString "_law_choose") 925), (Value.str (Str.ofString "_law_choose") 926), (Value.str (Str.ofString "/claim/cut.py") 927), (Value.int 348 0), (Value.int 2 0), (Value.int 0 0), (Value.int 0 0), (Value.int 3 0), (Value.ref 546), (Value.bool Bool.true), (Value.int 181 0), (Value.ref 547), Value.none, (Value.ref 548), (Value.ref 549), (Value.ref 550), (Value.int 930 0), (Value.int 348 0), (Value.str (Str.ofString "/claim/cut.py") 931)])) (List.toArray []))) ::
  (nat_lit 552, (Obj.mk (Value.type "function") none (Data.func (FuncData.mk (Str.ofString "_law_choose") (Str.ofString "_law_choose") kA552.1 (FuncBody.stmts kB552.1) kS552.1 3 [] Value.none Value.none Value.none (Value.str (Str.ofString "law_ok0027_01") 912) none (Value.ref 551) Value.none 0)) (List.toArray []))) ::
  (nat_lit 553, (Obj.mk (Value.type "tuple") none (Data.seq (List.toArray []) 0) (List.toArray []))) ::
  (nat_lit 556, (Obj.mk (Value.type "code") none (Data.fields (List.toArray [(Value.str (Str.ofString "_law_row_stands") 933), (Value.str (Str.ofString "_law_row_stands") 934), (Value.str (Str.ofString "/claim/cut.py") 935), (Value.int 352 0), (Value.int 2 0), (Value.int 0 0), (Value.int 0 0), (Value.int 3 0), (Value.ref 553), (Value.bool Bool.true), (Value.int 181 0), (Value.ref 554), Value.none, Value.none, Value.none, (Value.ref 555), (Value.int 936 0), (Value.int 352 0), (Value.str (Str.ofString "/claim/cut.py") 937)])) (List.toArray []))) ::
  (nat_lit 557, (Obj.mk (Value.type "function") none (Data.func (FuncData.mk (Str.ofString "_law_row_stands") (Str.ofString "_law_row_stands") kA557.1 (FuncBody.stmts kB557.1) kS557.1 3 [] Value.none Value.none Value.none (Value.str (Str.ofString "law_ok0027_01") 912) none (Value.ref 556) Value.none 0)) (List.toArray []))) ::
  (nat_lit 558, (Obj.mk (Value.type "tuple") none (Data.seq (List.toArray []) 0) (List.toArray []))) ::
  (nat_lit 561, (Obj.mk (Value.type "code") none (Data.fields (List.toArray [(Value.str (Str.ofString "_law_stands") 939), (Value.str (Str.ofString "_law_stands") 940), (Value.str (Str.ofString "/claim/cut.py") 941), (Value.int 357 0), (Value.int 3 0), (Value.int 0 0), (Value.int 0 0), (Value.int 3 0), (Value.ref 558), (Value.bool Bool.true), (Value.int 181 0), (Value.ref 559), Value.none, Value.none, Value.none, (Value.ref 560), (Value.int 942 0), (Value.int 357 0), (Value.str (Str.ofString "/claim/cut.py") 943)])) (List.toArray []))) ::
  (nat_lit 562, (Obj.mk (Value.type "function") none (Data.func (FuncData.mk (Str.ofString "_law_stands") (Str.ofString "_law_stands") kA562.1 (FuncBody.stmts kB562.1) kS562.1 3 [] Value.none Value.none Value.none (Value.str (Str.ofString "law_ok0027_01") 912) none (Value.ref 561) Value.none 0)) (List.toArray []))) ::
  (nat_lit 563, (Obj.mk (Value.type "tuple") none (Data.seq (List.toArray []) 0) (List.toArray []))) ::
  (nat_lit 565, (Obj.mk (Value.type "tuple") none (Data.seq (List.toArray [(Value.str (Str.ofString "script") 948), (Value.str (Str.ofString "strip") 949), (Value.str (Str.ofString "rows_of") 950), (Value.str (Str.ofString "m") 951), (Value.str (Str.ofString "chain") 952), (Value.str (Str.ofString "points") 953), (Value.str (Str.ofString "mark_no") 954), (Value.str (Str.ofString "lap") 955), (Value.str (Str.ofString "deed") 956), (Value.str (Str.ofString "size_of") 957), (Value.str (Str.ofString "fills") 958), (Value.str (Str.ofString "at") 959), (Value.str (Str.ofString "given_cells") 960), (Value.str (Str.ofString "point") 961), (Value.str (Str.ofString "kept_many") 962)]) 0) (List.toArray []))) ::
  (nat_lit 566, (Obj.mk (Value.type "tuple") none (Data.seq (List.toArray []) 0) (List.toArray []))) ::
  (nat_lit 568, (Obj.mk (Value.type "code") none (Data.fields (List.toArray [(Value.str (Str.ofString "law") 945), (Value.str (Str.ofString "law") 946), (Value.str (Str.ofString "/claim/cut.py") 947), (Value.int 370 0), (Value.int 1 0), (Value.int 0 0), (Value.int 0 0), (Value.int 3 0), (Value.ref 563), (Value.bool Bool.true), (Value.int 181 0), (Value.ref 564), Value.none, (Value.ref 565), (Value.ref 566), (Value.ref 567), (Value.int 963 0), (Value.int 370 0), (Value.str (Str.ofString "/claim/cut.py") 964)])) (List.toArray []))) ::
  (nat_lit 569, (Obj.mk (Value.type "function") none (Data.func (FuncData.mk (Str.ofString "law") (Str.ofString "law") kA569.1 (FuncBody.stmts kB569.1) kS569.1 3 [] Value.none Value.none Value.none (Value.str (Str.ofString "law_ok0027_01") 912) none (Value.ref 568) Value.none 0)) (List.toArray []))) :: []
noncomputable def kQ : Program := { kPw with main := { kPw.main with body := [(nthS kSt.1 0), (nthS kSt.1 2), (nthS kSt.1 3), (nthS kSt.1 4), (nthS kSt.1 5), (nthS kSt.1 6), (nthS kSt.1 7), (nthS kSt.1 8), (nthS kSt.1 10), (nthS kSt.1 11), (nthS kSt.1 12), (nthS kSt.1 14), (nthS kSt.1 15), (nthS kSt.1 16), (nthS kSt.1 17), (nthS kSt.1 18), (nthS kSt.1 19), (nthS kSt.1 20), (nthS kSt.1 22), (nthS kSt.1 23), (nthS kSt.1 24), (nthS kSt.1 25), (nthS kSt.1 26), (nthS kSt.1 27), (nthS kSt.1 28), (nthS kSt.1 29), (nthS kSt.1 30), (nthS kSt.1 31), (nthS kSt.1 33), (nthS kSt.1 34), (nthS kSt.1 35), (nthS kSt.1 36), (nthS kSt.1 37)] } }

set_option maxRecDepth 1000000
set_option maxHeartbeats 0
noncomputable abbrev kLoose : List Str := [Str.ofString "VOID", Str.ofString "Store"]
noncomputable abbrev kLv : List (Str × WData) := [(Str.ofString "VOID", WData.tuple [WData.int 5, WData.int 0])]
noncomputable abbrev kXt : Shared → Bool := fun s => xlAt kQ kLv s && recOk (RowW.records PySem.Challenge.rw_ok0027_01.row.toRowW) s
noncomputable abbrev kAs : List Nat := [nat_lit 2, nat_lit 3, nat_lit 15, nat_lit 17, nat_lit 18, nat_lit 20, nat_lit 21, nat_lit 22, nat_lit 29, nat_lit 30, nat_lit 31, nat_lit 32, nat_lit 35, nat_lit 42, nat_lit 44, nat_lit 45, nat_lit 47, nat_lit 48, nat_lit 49, nat_lit 50, nat_lit 51, nat_lit 54, nat_lit 56, nat_lit 57, nat_lit 59, nat_lit 60, nat_lit 61, nat_lit 63, nat_lit 64, nat_lit 66, nat_lit 67, nat_lit 75, nat_lit 77, nat_lit 78, nat_lit 80, nat_lit 81, nat_lit 82, nat_lit 84, nat_lit 85, nat_lit 87, nat_lit 88, nat_lit 89, nat_lit 91, nat_lit 92, nat_lit 94, nat_lit 95, nat_lit 96, nat_lit 98, nat_lit 99, nat_lit 101, nat_lit 102, nat_lit 103, nat_lit 105, nat_lit 106, nat_lit 108, nat_lit 109, nat_lit 110, nat_lit 112, nat_lit 113, nat_lit 115, nat_lit 116, nat_lit 117, nat_lit 119, nat_lit 120, nat_lit 122, nat_lit 123, nat_lit 124, nat_lit 126, nat_lit 127, nat_lit 129, nat_lit 130, nat_lit 131, nat_lit 133, nat_lit 134, nat_lit 136, nat_lit 137, nat_lit 138, nat_lit 140, nat_lit 141, nat_lit 143, nat_lit 144, nat_lit 145, nat_lit 147, nat_lit 148, nat_lit 150, nat_lit 151, nat_lit 152, nat_lit 153, nat_lit 154, nat_lit 155, nat_lit 156, nat_lit 159, nat_lit 161, nat_lit 162, nat_lit 164, nat_lit 165, nat_lit 166, nat_lit 168, nat_lit 169, nat_lit 171, nat_lit 172, nat_lit 173, nat_lit 175, nat_lit 176, nat_lit 178, nat_lit 179, nat_lit 180, nat_lit 188, nat_lit 189, nat_lit 191, nat_lit 192, nat_lit 194, nat_lit 195, nat_lit 196, nat_lit 198, nat_lit 199, nat_lit 201, nat_lit 202, nat_lit 203, nat_lit 205, nat_lit 206, nat_lit 208, nat_lit 209, nat_lit 210, nat_lit 212, nat_lit 213, nat_lit 215, nat_lit 216, nat_lit 217, nat_lit 219, nat_lit 220, nat_lit 222, nat_lit 223, nat_lit 224, nat_lit 226, nat_lit 227, nat_lit 229, nat_lit 230, nat_lit 231, nat_lit 233, nat_lit 234, nat_lit 236, nat_lit 237, nat_lit 238, nat_lit 240, nat_lit 241, nat_lit 243, nat_lit 244, nat_lit 245, nat_lit 247, nat_lit 248, nat_lit 250, nat_lit 251, nat_lit 252, nat_lit 254, nat_lit 255, nat_lit 257, nat_lit 258, nat_lit 259, nat_lit 261, nat_lit 262, nat_lit 264, nat_lit 265, nat_lit 266, nat_lit 268, nat_lit 269, nat_lit 271, nat_lit 272, nat_lit 273, nat_lit 275, nat_lit 276, nat_lit 278, nat_lit 279, nat_lit 280, nat_lit 282, nat_lit 283, nat_lit 285, nat_lit 286, nat_lit 287, nat_lit 289, nat_lit 290, nat_lit 292, nat_lit 293, nat_lit 294, nat_lit 296, nat_lit 297, nat_lit 299, nat_lit 300, nat_lit 301, nat_lit 303, nat_lit 304, nat_lit 306, nat_lit 307, nat_lit 308, nat_lit 310, nat_lit 311, nat_lit 313, nat_lit 314, nat_lit 315, nat_lit 317, nat_lit 318, nat_lit 320, nat_lit 321, nat_lit 322, nat_lit 323, nat_lit 324, nat_lit 325, nat_lit 326, nat_lit 329, nat_lit 336, nat_lit 338, nat_lit 339, nat_lit 341, nat_lit 342, nat_lit 343, nat_lit 344, nat_lit 346, nat_lit 347, nat_lit 349, nat_lit 350, nat_lit 351, nat_lit 353, nat_lit 354, nat_lit 356, nat_lit 357, nat_lit 358, nat_lit 360, nat_lit 361, nat_lit 363, nat_lit 364, nat_lit 365, nat_lit 367, nat_lit 368, nat_lit 370, nat_lit 371, nat_lit 372, nat_lit 373, nat_lit 374, nat_lit 384, nat_lit 385, nat_lit 387, nat_lit 388, nat_lit 390, nat_lit 391, nat_lit 392, nat_lit 394, nat_lit 395, nat_lit 397, nat_lit 398, nat_lit 399, nat_lit 401, nat_lit 402, nat_lit 404, nat_lit 405, nat_lit 406, nat_lit 408, nat_lit 409, nat_lit 411, nat_lit 412, nat_lit 413, nat_lit 415, nat_lit 416, nat_lit 418, nat_lit 419, nat_lit 420, nat_lit 422, nat_lit 423, nat_lit 425, nat_lit 426, nat_lit 427, nat_lit 429, nat_lit 430, nat_lit 432, nat_lit 433, nat_lit 434, nat_lit 436, nat_lit 437, nat_lit 439, nat_lit 440, nat_lit 441, nat_lit 443, nat_lit 444, nat_lit 446, nat_lit 447, nat_lit 448, nat_lit 450, nat_lit 451, nat_lit 453, nat_lit 454, nat_lit 455, nat_lit 457, nat_lit 458, nat_lit 460, nat_lit 461, nat_lit 462, nat_lit 464, nat_lit 465, nat_lit 467, nat_lit 468, nat_lit 469, nat_lit 471, nat_lit 472, nat_lit 474, nat_lit 475, nat_lit 476, nat_lit 478, nat_lit 479, nat_lit 481, nat_lit 482, nat_lit 483, nat_lit 485, nat_lit 486, nat_lit 488, nat_lit 489, nat_lit 490, nat_lit 492, nat_lit 493, nat_lit 495, nat_lit 496, nat_lit 497, nat_lit 499, nat_lit 500, nat_lit 502, nat_lit 503, nat_lit 504, nat_lit 506, nat_lit 507, nat_lit 509, nat_lit 510, nat_lit 511, nat_lit 513, nat_lit 514, nat_lit 516, nat_lit 517, nat_lit 518, nat_lit 520, nat_lit 521, nat_lit 523, nat_lit 524, nat_lit 525, nat_lit 527, nat_lit 528, nat_lit 530, nat_lit 531, nat_lit 532, nat_lit 533, nat_lit 534, nat_lit 535, nat_lit 536, nat_lit 539, nat_lit 541, nat_lit 542, nat_lit 544, nat_lit 545, nat_lit 546, nat_lit 548, nat_lit 549, nat_lit 551, nat_lit 552, nat_lit 553, nat_lit 556, nat_lit 557, nat_lit 558, nat_lit 561, nat_lit 562, nat_lit 563, nat_lit 565, nat_lit 566, nat_lit 568, nat_lit 569]
noncomputable def kTree : Params → BT := fun P => (W.BT.node (W.boot_o_0 P) (W.BT.node (W.boot_o_1 P) (W.BT.node (W.boot_o_3 P) (W.BT.node (W.boot_o_7 P) W.BT.nil W.BT.nil) (W.BT.node (Obj.mk (Value.type "tuple") none (Data.seq (List.toArray []) 0) (List.toArray [])) W.BT.nil W.BT.nil)) (W.BT.node (W.boot_o_5 P) (W.BT.node (W.boot_o_9 P) W.BT.nil W.BT.nil) (W.BT.node (Obj.mk (Value.type "code") none (Data.fields (List.toArray [(Value.str (Str.ofString "<module>") 182), (Value.str (Str.ofString "<module>") 183), (Value.str (Str.ofString "/claim/cut.py") 184), (Value.int 1 0), (Value.int 0 0), (Value.int 0 0), (Value.int 0 0), (Value.int 0 0), (Value.ref 11), (Value.bool Bool.false), (Value.int 181 0), (Value.ref 12), Value.none, Value.none, Value.none, Value.none, (Value.int 185 0), (Value.int 1 0), (Value.str (Str.ofString "/claim/cut.py") 186)])) (List.toArray [])) W.BT.nil W.BT.nil))) (W.BT.node (W.boot_o_2 P) (W.BT.node (W.boot_o_4 P) (W.BT.node (W.boot_o_8 P) W.BT.nil W.BT.nil) (W.BT.node (Obj.mk Value.none none (Data.fields (List.toArray [])) (List.toArray [])) W.BT.nil W.BT.nil)) (W.BT.node (W.boot_o_6 P) (W.BT.node (W.boot_o_10 P) W.BT.nil W.BT.nil) (W.BT.node (Obj.mk (Value.type "frame") none Data.plain (List.toArray [(some (Value.ref 13)), (some (Value.ref 3)), (some (Value.ref 3)), none, (some (Value.str (Str.ofString "__main__") 164)), none, (some (Value.ref 0))])) W.BT.nil W.BT.nil))))
noncomputable def kHeap : Params → Heap := fun P => (Heap.mk (Array.mk [(W.boot_o_0 P), (W.boot_o_1 P), (W.boot_o_2 P), (W.boot_o_3 P), (W.boot_o_4 P), (W.boot_o_5 P), (W.boot_o_6 P), (W.boot_o_7 P), (W.boot_o_8 P), (W.boot_o_9 P), (W.boot_o_10 P), (Obj.mk (Value.type "tuple") none (Data.seq (List.toArray []) 0) (List.toArray [])), (Obj.mk Value.none none (Data.fields (List.toArray [])) (List.toArray [])), (Obj.mk (Value.type "code") none (Data.fields (List.toArray [(Value.str (Str.ofString "<module>") 182), (Value.str (Str.ofString "<module>") 183), (Value.str (Str.ofString "/claim/cut.py") 184), (Value.int 1 0), (Value.int 0 0), (Value.int 0 0), (Value.int 0 0), (Value.int 0 0), (Value.ref 11), (Value.bool Bool.false), (Value.int 181 0), (Value.ref 12), Value.none, Value.none, Value.none, Value.none, (Value.int 185 0), (Value.int 1 0), (Value.str (Str.ofString "/claim/cut.py") 186)])) (List.toArray [])), (Obj.mk (Value.type "frame") none Data.plain (List.toArray [(some (Value.ref 13)), (some (Value.ref 3)), (some (Value.ref 3)), none, (some (Value.str (Str.ofString "__main__") 164)), none, (some (Value.ref 0))]))]) (Life.mk [] [] [] 0 [] [] Bool.false (List.toArray []) [] 0 Bool.false Bool.false Bool.false 0 [2000, 10, 10] Bool.false 0 Bool.true [] [] 0 Bool.false))
noncomputable def kTreeF : Params → BT := fun P => (.node (W.boot_o_0 P)
 (.node (W.boot_o_1 P)
 (.node (Obj.mk (Value.type "dict") none (Data.dict (List.toArray [(DictEntry.mk (PyData.keyHash P (Str.ofString "__name__")) (Value.str (Str.ofString "__name__") 165) (Value.str (Str.ofString "law_ok0027_01") 912)), (DictEntry.mk (PyData.keyHash P (Str.ofString "__doc__")) (Value.str (Str.ofString "__doc__") 166) Value.none), (DictEntry.mk (PyData.keyHash P (Str.ofString "__package__")) (Value.str (Str.ofString "__package__") 167) Value.none), (DictEntry.mk (PyData.keyHash P (Str.ofString "__loader__")) (Value.str (Str.ofString "__loader__") 168) (Value.builtin "__main__.__loader__#opaque")), (DictEntry.mk (PyData.keyHash P (Str.ofString "__spec__")) (Value.str (Str.ofString "__spec__") 169) Value.none), (DictEntry.mk (PyData.keyHash P (Str.ofString "__annotations__")) (Value.str (Str.ofString "__annotations__") 170) (Value.ref 6)), (DictEntry.mk (PyData.keyHash P (Str.ofString "__builtins__")) (Value.str (Str.ofString "__builtins__") 171) (Value.ref 4)), (DictEntry.mk (PyData.keyHash P (Str.ofString "__file__")) (Value.str (Str.ofString "__file__") 173) (Value.str (Str.ofString "/claim/cut.py") 172)), (DictEntry.mk (PyData.keyHash P (Str.ofString "__cached__")) (Value.str (Str.ofString "__cached__") 174) Value.none), (DictEntry.mk (PyData.keyHash P (Str.ofString "_wall")) (Value.str (Str.ofString "_wall") 193) (Value.ref 21)), (DictEntry.mk (PyData.keyHash P (Str.ofString "ClausemillError")) (Value.str (Str.ofString "ClausemillError") 215) (Value.ref 31)), (DictEntry.mk (PyData.keyHash P (Str.ofString "PrologError")) (Value.str (Str.ofString "PrologError") 240) (Value.ref 51)), (DictEntry.mk (PyData.keyHash P (Str.ofString "A_SYSTEM")) (Value.str (Str.ofString "A_SYSTEM") 242) (Value.int 25 241)), (DictEntry.mk (PyData.keyHash P (Str.ofString "F_ERROR")) (Value.str (Str.ofString "F_ERROR") 244) (Value.int 16 243)), (DictEntry.mk (PyData.keyHash P (Str.ofString "fixed_atoms")) (Value.str (Str.ofString "fixed_atoms") 250) (Value.ref 60)), (DictEntry.mk (PyData.keyHash P (Str.ofString "fixed_functors")) (Value.str (Str.ofString "fixed_functors") 256) (Value.ref 67)), (DictEntry.mk (PyData.keyHash P (Str.ofString "Symbols")) (Value.str (Str.ofString "Symbols") 375) (Value.ref 154)), (DictEntry.mk (PyData.keyHash P (Str.ofString "system_error")) (Value.str (Str.ofString "system_error") 384) (Value.ref 165)), (DictEntry.mk (PyData.keyHash P (Str.ofString "formal_of")) (Value.str (Str.ofString "formal_of") 395) (Value.ref 172)), (DictEntry.mk (PyData.keyHash P (Str.ofString "resource_error")) (Value.str (Str.ofString "resource_error") 403) (Value.ref 179)), (DictEntry.mk (PyData.keyHash P (Str.ofString "REF")) (Value.str (Str.ofString "REF") 407) (Value.int 0 406)), (DictEntry.mk (PyData.keyHash P (Str.ofString "SRF")) (Value.str (Str.ofString "SRF") 409) (Value.int 1 408)), (DictEntry.mk (PyData.keyHash P (Str.ofString "LIS")) (Value.str (Str.ofString "LIS") 411) (Value.int 3 410)), (DictEntry.mk (PyData.keyHash P (Str.ofString "INT")) (Value.str (Str.ofString "INT") 413) (Value.int 5 412)), (DictEntry.mk (PyData.keyHash P (Str.ofString "VOID")) (Value.str (Str.ofString "VOID") 415) (Value.ref 180)), (DictEntry.mk (PyData.keyHash P (Str.ofString "Cells")) (Value.str (Str.ofString "Cells") 603) (Value.ref 324)), (DictEntry.mk (PyData.keyHash P (Str.ofString "Store")) (Value.str (Str.ofString "Store") 663) (Value.ref 374)), (DictEntry.mk (PyData.keyHash P (Str.ofString "READ")) (Value.str (Str.ofString "READ") 667) (Value.str (Str.ofString "read") 666)), (DictEntry.mk (PyData.keyHash P (Str.ofString "AT_E")) (Value.str (Str.ofString "AT_E") 669) (Value.int 1 668)), (DictEntry.mk (PyData.keyHash P (Str.ofString "AT_CP")) (Value.str (Str.ofString "AT_CP") 671) (Value.int 2 670)), (DictEntry.mk (PyData.keyHash P (Str.ofString "AT_PREVIOUS")) (Value.str (Str.ofString "AT_PREVIOUS") 673) (Value.int 3 672)), (DictEntry.mk (PyData.keyHash P (Str.ofString "AT_ALTERNATIVE")) (Value.str (Str.ofString "AT_ALTERNATIVE") 675) (Value.int 4 674)), (DictEntry.mk (PyData.keyHash P (Str.ofString "AT_TRAIL")) (Value.str (Str.ofString "AT_TRAIL") 677) (Value.int 5 676)), (DictEntry.mk (PyData.keyHash P (Str.ofString "AT_HEAP")) (Value.str (Str.ofString "AT_HEAP") 679) (Value.int 6 678)), (DictEntry.mk (PyData.keyHash P (Str.ofString "AT_B0")) (Value.str (Str.ofString "AT_B0") 681) (Value.int 7 680)), (DictEntry.mk (PyData.keyHash P (Str.ofString "EXTRA")) (Value.str (Str.ofString "EXTRA") 683) (Value.int 8 682)), (DictEntry.mk (PyData.keyHash P (Str.ofString "Areas")) (Value.str (Str.ofString "Areas") 911) (Value.ref 534)), (DictEntry.mk (PyData.keyHash P (Str.ofString "_law_digits")) (Value.str (Str.ofString "_law_digits") 924) (Value.ref 545)), (DictEntry.mk (PyData.keyHash P (Str.ofString "_law_choose")) (Value.str (Str.ofString "_law_choose") 932) (Value.ref 552)), (DictEntry.mk (PyData.keyHash P (Str.ofString "_law_row_stands")) (Value.str (Str.ofString "_law_row_stands") 938) (Value.ref 557)), (DictEntry.mk (PyData.keyHash P (Str.ofString "_law_stands")) (Value.str (Str.ofString "_law_stands") 944) (Value.ref 562)), (DictEntry.mk (PyData.keyHash P (Str.ofString "law")) (Value.str (Str.ofString "law") 965) (Value.ref 569))]) 42) (List.toArray []))
 (.node (W.boot_o_7 P)
 (.node (Obj.mk (Value.type "tuple") none (Data.seq (List.toArray []) 0) (List.toArray []))
 (.node (Obj.mk (Value.type "type") none (Data.cls (ClassData.mk (Str.ofString "ClausemillError") [(Value.type "Exception")] [(Value.ref 31), (Value.type "Exception"), (Value.type "BaseException"), (Value.type "object")] 30 (Str.ofString "ClausemillError") Bool.true [] [(Value.ref 51)] Bool.false none Bool.false)) (List.toArray [(some (Value.ref 22)), none, (some (Value.str (Str.ofString "ClausemillError") 196)), (some (Value.str (Str.ofString "ClausemillError") 204)), (some (Value.builtin "Exception.__new__")), (some (Value.bool Bool.true))]))
 (.node (Obj.mk (Value.type "tuple") none (Data.seq (List.toArray []) 0) (List.toArray []))
 (.node (Obj.mk (Value.type "tuple") none (Data.seq (List.toArray []) 0) (List.toArray []))
 (.node (Obj.mk (Value.type "tuple") none (Data.seq (List.toArray []) 0) (List.toArray []))
 (.node (Obj.mk (Value.type "tuple") none (Data.seq (List.toArray []) 0) (List.toArray []))
 .nil .nil) .nil) (.node (Obj.mk (Value.type "frame") none Data.plain (List.toArray [(some (Value.ref 382)), (some (Value.ref 3)), (some (Value.ref 379)), none, (some (Value.str (Str.ofString "clausemill.areas") 664)), none, (some (Value.ref 0))]))
 .nil .nil)) (.node (Obj.mk (Value.type "tuple") none (Data.seq (List.toArray [(Value.str (Str.ofString "self") 432), (Value.str (Str.ofString "symbols") 433), (Value.str (Str.ofString "max_heap") 434)]) 0) (List.toArray []))
 (.node (Obj.mk Value.none none (Data.func (FuncData.mk (Str.ofString "new_block") (Str.ofString "Cells.new_block") kA321.1 (FuncBody.stmts kB321.1) kS321.1 0 [] Value.none Value.none Value.none Value.none none Value.none Value.none 0)) (List.toArray []))
 .nil .nil) (.node (Obj.mk (Value.type "function") none (Data.func (FuncData.mk (Str.ofString "top") (Str.ofString "Areas.top") kA447.1 (FuncBody.stmts kB447.1) kS447.1 3 [] Value.none Value.none Value.none (Value.str (Str.ofString "clausemill.areas") 664) none (Value.ref 446) Value.none 0)) (List.toArray []))
 .nil .nil))) (.node (Obj.mk (Value.type "function") none (Data.func (FuncData.mk (Str.ofString "text") (Str.ofString "Symbols.text") kA95.1 (FuncBody.stmts kB95.1) kS95.1 3 [] Value.none Value.none Value.none (Value.str (Str.ofString "clausemill.symbols") 194) none (Value.ref 94) Value.none 0)) (List.toArray []))
 (.node (Obj.mk (Value.type "tuple") none (Data.seq (List.toArray []) 0) (List.toArray []))
 (.node (Obj.mk (Value.type "tuple") none (Data.seq (List.toArray []) 0) (List.toArray []))
 (.node (Obj.mk Value.none none (Data.func (FuncData.mk (Str.ofString "_law_digits") (Str.ofString "_law_digits") kA545.1 (FuncBody.stmts kB545.1) kS545.1 0 [] Value.none Value.none Value.none Value.none none Value.none Value.none 0)) (List.toArray []))
 .nil .nil) .nil) (.node (Obj.mk (Value.type "tuple") none (Data.seq (List.toArray [(Value.str (Str.ofString "self") 737), (Value.str (Str.ofString "i") 738)]) 0) (List.toArray []))
 .nil .nil)) (.node (Obj.mk (Value.type "function") none (Data.func (FuncData.mk (Str.ofString "trim") (Str.ofString "Cells.trim") kA223.1 (FuncBody.stmts kB223.1) kS223.1 3 [] Value.none Value.none Value.none (Value.str (Str.ofString "clausemill.store") 404) none (Value.ref 222) Value.none 0)) (List.toArray []))
 (.node (Obj.mk (Value.type "tuple") none (Data.seq (List.toArray []) 0) (List.toArray []))
 .nil .nil) (.node (Obj.mk (Value.type "tuple") none (Data.seq (List.toArray []) 0) (List.toArray []))
 .nil .nil)))) (.node (Obj.mk (Value.type "code") none (Data.fields (List.toArray [(Value.str (Str.ofString "__init__") 228), (Value.str (Str.ofString "PrologError.__init__") 229), (Value.str (Str.ofString "/claim/cut.py") 230), (Value.int 9 0), (Value.int 2 0), (Value.int 0 0), (Value.int 0 0), (Value.int 3 0), (Value.ref 42), (Value.bool Bool.true), (Value.int 181 0), (Value.ref 43), Value.none, (Value.ref 44), (Value.ref 45), (Value.ref 46), (Value.int 233 0), (Value.int 9 0), (Value.str (Str.ofString "/claim/cut.py") 234)])) (List.toArray []))
 (.node (Obj.mk Value.none none (Data.func (FuncData.mk (Str.ofString "__init__") (Str.ofString "Symbols.__init__") kA81.1 (FuncBody.stmts kB81.1) kS81.1 0 [] Value.none Value.none Value.none Value.none none Value.none Value.none 0)) (List.toArray []))
 (.node (Obj.mk (Value.type "code") none (Data.fields (List.toArray [(Value.str (Str.ofString "functor_count") 348), (Value.str (Str.ofString "Symbols.functor_count") 349), (Value.str (Str.ofString "/claim/cut.py") 350), (Value.int 66 0), (Value.int 1 0), (Value.int 0 0), (Value.int 0 0), (Value.int 3 0), (Value.ref 138), (Value.bool Bool.true), (Value.int 181 0), (Value.ref 139), Value.none, (Value.ref 140), (Value.ref 141), (Value.ref 142), (Value.int 352 0), (Value.int 66 0), (Value.str (Str.ofString "/claim/cut.py") 353)])) (List.toArray []))
 (.node (Obj.mk (Value.type "code") none (Data.fields (List.toArray [(Value.str (Str.ofString "undo_to") 520), (Value.str (Str.ofString "Cells.undo_to") 521), (Value.str (Str.ofString "/claim/cut.py") 522), (Value.int 134 0), (Value.int 2 0), (Value.int 0 0), (Value.int 0 0), (Value.int 3 0), (Value.ref 266), (Value.bool Bool.true), (Value.int 181 0), (Value.ref 267), Value.none, (Value.ref 268), (Value.ref 269), (Value.ref 270), (Value.int 527 0), (Value.int 134 0), (Value.str (Str.ofString "/claim/cut.py") 528)])) (List.toArray []))
 (.node (Obj.mk (Value.type "tuple") none (Data.seq (List.toArray [(Value.str (Str.ofString "self") 880), (Value.str (Str.ofString "found") 881), (Value.str (Str.ofString "e") 882)]) 0) (List.toArray []))
 .nil .nil) .nil) (.node (Obj.mk (Value.type "tuple") none (Data.seq (List.toArray []) 0) (List.toArray []))
 .nil .nil)) (.node (Obj.mk Value.none none (Data.func (FuncData.mk (Str.ofString "new_var") (Str.ofString "Cells.new_var") kA209.1 (FuncBody.stmts kB209.1) kS209.1 0 [] Value.none Value.none Value.none Value.none none Value.none Value.none 0)) (List.toArray []))
 (.node (Obj.mk (Value.type "frame") none Data.plain (List.toArray [(some (Value.ref 334)), (some (Value.ref 3)), (some (Value.ref 331)), none, (some (Value.str (Str.ofString "clausemill.store") 404)), none, (some (Value.ref 0))]))
 .nil .nil) (.node (Obj.mk Value.none none (Data.fields (List.toArray [])) (List.toArray []))
 .nil .nil))) (.node (Obj.mk Value.none none (Data.fields (List.toArray [])) (List.toArray []))
 (.node (Obj.mk (Value.type "tuple") none (Data.seq (List.toArray [(Value.str (Str.ofString "symbols") 399), (Value.str (Str.ofString "what") 400)]) 0) (List.toArray []))
 (.node (Obj.mk (Value.type "tuple") none (Data.seq (List.toArray [(Value.str (Str.ofString "self") 567), (Value.str (Str.ofString "cell") 568)]) 0) (List.toArray []))
 (.node (Obj.mk Value.none none (Data.fields (List.toArray [])) (List.toArray []))
 .nil .nil) .nil) (.node (Obj.mk Value.none none (Data.func (FuncData.mk (Str.ofString "take") (Str.ofString "Areas.take") kA433.1 (FuncBody.stmts kB433.1) kS433.1 0 [] Value.none Value.none Value.none Value.none none Value.none Value.none 0)) (List.toArray []))
 .nil .nil)) (.node (Obj.mk Value.none none (Data.fields (List.toArray [])) (List.toArray []))
 (.node (Obj.mk (Value.type "tuple") none (Data.seq (List.toArray [(Value.str (Str.ofString "self") 654), (Value.str (Str.ofString "cell") 655), (Value.str (Str.ofString "table") 656)]) 0) (List.toArray []))
 .nil .nil) (.node (Obj.mk (Value.type "code") none (Data.fields (List.toArray [(Value.str (Str.ofString "choice_part") 833), (Value.str (Str.ofString "Areas.choice_part") 834), (Value.str (Str.ofString "/claim/cut.py") 835), (Value.int 298 0), (Value.int 2 0), (Value.int 0 0), (Value.int 0 0), (Value.int 3 0), (Value.ref 490), (Value.bool Bool.true), (Value.int 181 0), (Value.ref 491), Value.none, (Value.ref 492), (Value.ref 493), (Value.ref 494), (Value.int 839 0), (Value.int 298 0), (Value.str (Str.ofString "/claim/cut.py") 840)])) (List.toArray []))
 .nil .nil))))) (.node (Obj.mk (Value.type "builtin_function_or_method") none (Data.fields (List.toArray [(Value.builtin "type.__prepare__"), (Value.type "type")])) (List.toArray []))
 (.node (Obj.mk Value.none none (Data.fields (List.toArray [(Value.int 9 0), (Value.int 4 0), (Value.ref 47)])) (List.toArray []))
 (.node (Obj.mk (Value.type "tuple") none (Data.seq (List.toArray []) 0) (List.toArray []))
 (.node (Obj.mk Value.none none (Data.func (FuncData.mk (Str.ofString "count") (Str.ofString "Symbols.count") kA137.1 (FuncBody.stmts kB137.1) kS137.1 0 [] Value.none Value.none Value.none Value.none none Value.none Value.none 0)) (List.toArray []))
 (.node (Obj.mk Value.none none (Data.func (FuncData.mk (Str.ofString "mark") (Str.ofString "Cells.mark") kA265.1 (FuncBody.stmts kB265.1) kS265.1 0 [] Value.none Value.none Value.none Value.none none Value.none Value.none 0)) (List.toArray []))
 (.node (Obj.mk Value.none none (Data.fields (List.toArray [])) (List.toArray []))
 .nil .nil) .nil) (.node (Obj.mk (Value.type "function") none (Data.func (FuncData.mk (Str.ofString "__init__") (Str.ofString "Areas.__init__") kA391.1 (FuncBody.stmts kB391.1) kS391.1 3 [] (Value.ref 384) Value.none Value.none (Value.str (Str.ofString "clausemill.areas") 664) none (Value.ref 390) Value.none 0)) (List.toArray []))
 .nil .nil)) (.node (Obj.mk (Value.type "tuple") none (Data.seq (List.toArray []) 0) (List.toArray []))
 (.node (Obj.mk (Value.type "super") none (Data.fields (List.toArray [(Value.ref 324), (Value.ref 324), (Value.ref 324)])) (List.toArray []))
 .nil .nil) (.node (Obj.mk (Value.type "tuple") none (Data.seq (List.toArray []) 0) (List.toArray []))
 .nil .nil))) (.node (Obj.mk (Value.type "tuple") none (Data.seq (List.toArray []) 0) (List.toArray []))
 (.node (Obj.mk Value.none none (Data.fields (List.toArray [])) (List.toArray []))
 (.node (Obj.mk Value.none none (Data.fields (List.toArray [])) (List.toArray []))
 (.node (Obj.mk (Value.type "code") none (Data.fields (List.toArray [(Value.str (Str.ofString "_law_choose") 925), (Value.str (Str.ofString "_law_choose") 926), (Value.str (Str.ofString "/claim/cut.py") 927), (Value.int 348 0), (Value.int 2 0), (Value.int 0 0), (Value.int 0 0), (Value.int 3 0), (Value.ref 546), (Value.bool Bool.true), (Value.int 181 0), (Value.ref 547), Value.none, (Value.ref 548), (Value.ref 549), (Value.ref 550), (Value.int 930 0), (Value.int 348 0), (Value.str (Str.ofString "/claim/cut.py") 931)])) (List.toArray []))
 .nil .nil) .nil) (.node (Obj.mk (Value.type "tuple") none (Data.seq (List.toArray []) 0) (List.toArray []))
 .nil .nil)) (.node (Obj.mk (Value.type "tuple") none (Data.seq (List.toArray []) 0) (List.toArray []))
 (.node (Obj.mk Value.none none (Data.fields (List.toArray [])) (List.toArray []))
 .nil .nil) (.node (Obj.mk Value.none none (Data.func (FuncData.mk (Str.ofString "set_alternative") (Str.ofString "Areas.set_alternative") kA489.1 (FuncBody.stmts kB489.1) kS489.1 0 [] Value.none Value.none Value.none Value.none none Value.none Value.none 0)) (List.toArray []))
 .nil .nil)))) (.node (Obj.mk Value.none none (Data.fields (List.toArray [])) (List.toArray []))
 (.node (Obj.mk (Value.type "code") none (Data.fields (List.toArray [(Value.str (Str.ofString "atom") 278), (Value.str (Str.ofString "Symbols.atom") 279), (Value.str (Str.ofString "/claim/cut.py") 280), (Value.int 29 0), (Value.int 2 0), (Value.int 0 0), (Value.int 0 0), (Value.int 3 0), (Value.ref 82), (Value.bool Bool.true), (Value.int 181 0), (Value.ref 83), Value.none, (Value.ref 84), (Value.ref 85), (Value.ref 86), (Value.int 285 0), (Value.int 29 0), (Value.str (Str.ofString "/claim/cut.py") 286)])) (List.toArray []))
 (.node (Obj.mk (Value.type "function") none (Data.func (FuncData.mk (Str.ofString "known") (Str.ofString "Symbols.known") kA151.1 (FuncBody.stmts kB151.1) kS151.1 3 [] Value.none Value.none Value.none (Value.str (Str.ofString "clausemill.symbols") 194) none (Value.ref 150) Value.none 0)) (List.toArray []))
 (.node (Obj.mk (Value.type "function") none (Data.func (FuncData.mk (Str.ofString "stack_put") (Str.ofString "Cells.stack_put") kA279.1 (FuncBody.stmts kB279.1) kS279.1 3 [] Value.none Value.none Value.none (Value.str (Str.ofString "clausemill.store") 404) none (Value.ref 278) Value.none 0)) (List.toArray []))
 (.node (Obj.mk (Value.type "getset_descriptor") none (Data.fields (List.toArray [(Value.str (Str.ofString "__dict__") 905), (Value.ref 534), (Value.builtin "function.__dict__"), (Value.builtin "function.__dict__#set")])) (List.toArray []))
 .nil .nil) .nil) (.node (Obj.mk Value.none none (Data.fields (List.toArray [])) (List.toArray []))
 .nil .nil)) (.node (Obj.mk (Value.type "code") none (Data.fields (List.toArray [(Value.str (Str.ofString "reserve") 455), (Value.str (Str.ofString "Cells.reserve") 456), (Value.str (Str.ofString "/claim/cut.py") 457), (Value.int 110 0), (Value.int 2 0), (Value.int 0 0), (Value.int 0 0), (Value.int 3 0), (Value.ref 210), (Value.bool Bool.true), (Value.int 181 0), (Value.ref 211), Value.none, (Value.ref 212), (Value.ref 213), (Value.ref 214), (Value.int 460 0), (Value.int 110 0), (Value.str (Str.ofString "/claim/cut.py") 461)])) (List.toArray []))
 (.node (Obj.mk (Value.type "tuple") none (Data.seq (List.toArray [Value.none]) 0) (List.toArray []))
 .nil .nil) (.node (Obj.mk (Value.type "tuple") none (Data.seq (List.toArray [(Value.str (Str.ofString "self") 804), (Value.str (Str.ofString "b") 805), (Value.str (Str.ofString "store") 806)]) 0) (List.toArray []))
 .nil .nil))) (.node (Obj.mk (Value.type "tuple") none (Data.seq (List.toArray [(Value.str (Str.ofString "self") 328), (Value.str (Str.ofString "functor") 329)]) 0) (List.toArray []))
 (.node (Obj.mk (Value.type "dict") none (Data.dict (List.toArray [(DictEntry.mk (PyData.keyHash P (Str.ofString "__module__")) (Value.str (Str.ofString "__module__") 423) (Value.str (Str.ofString "clausemill.store") 404)), (DictEntry.mk (PyData.keyHash P (Str.ofString "__qualname__")) (Value.str (Str.ofString "__qualname__") 425) (Value.str (Str.ofString "Cells") 424)), (DictEntry.mk (PyData.keyHash P (Str.ofString "__firstlineno__")) (Value.str (Str.ofString "__firstlineno__") 427) (Value.int 87 426)), (DictEntry.mk (PyData.keyHash P (Str.ofString "__init__")) (Value.str (Str.ofString "__init__") 437) (Value.ref 195)), (DictEntry.mk (PyData.keyHash P (Str.ofString "push")) (Value.str (Str.ofString "push") 446) (Value.ref 202)), (DictEntry.mk (PyData.keyHash P (Str.ofString "new_var")) (Value.str (Str.ofString "new_var") 454) (Value.ref 209)), (DictEntry.mk (PyData.keyHash P (Str.ofString "reserve")) (Value.str (Str.ofString "reserve") 462) (Value.ref 216)), (DictEntry.mk (PyData.keyHash P (Str.ofString "trim")) (Value.str (Str.ofString "trim") 470) (Value.ref 223)), (DictEntry.mk (PyData.keyHash P (Str.ofString "deref")) (Value.str (Str.ofString "deref") 478) (Value.ref 230)), (DictEntry.mk (PyData.keyHash P (Str.ofString "is_unbound")) (Value.str (Str.ofString "is_unbound") 486) (Value.ref 237)), (DictEntry.mk (PyData.keyHash P (Str.ofString "bind")) (Value.str (Str.ofString "bind") 495) (Value.ref 244)), (DictEntry.mk (PyData.keyHash P (Str.ofString "bind_pair")) (Value.str (Str.ofString "bind_pair") 504) (Value.ref 251)), (DictEntry.mk (PyData.keyHash P (Str.ofString "globalise")) (Value.str (Str.ofString "globalise") 512) (Value.ref 258)), (DictEntry.mk (PyData.keyHash P (Str.ofString "mark")) (Value.str (Str.ofString "mark") 519) (Value.ref 265)), (DictEntry.mk (PyData.keyHash P (Str.ofString "undo_to")) (Value.str (Str.ofString "undo_to") 529) (Value.ref 272)), (DictEntry.mk (PyData.keyHash P (Str.ofString "stack_put")) (Value.str (Str.ofString "stack_put") 539) (Value.ref 279)), (DictEntry.mk (PyData.keyHash P (Str.ofString "is_compound")) (Value.str (Str.ofString "is_compound") 547) (Value.ref 286)), (DictEntry.mk (PyData.keyHash P (Str.ofString "functor_of")) (Value.str (Str.ofString "functor_of") 555) (Value.ref 293)), (DictEntry.mk (PyData.keyHash P (Str.ofString "width")) (Value.str (Str.ofString "width") 563) (Value.ref 300)), (DictEntry.mk (PyData.keyHash P (Str.ofString "base")) (Value.str (Str.ofString "base") 571) (Value.ref 307)), (DictEntry.mk (PyData.keyHash P (Str.ofString "arg")) (Value.str (Str.ofString "arg") 580) (Value.ref 314)), (DictEntry.mk (PyData.keyHash P (Str.ofString "new_block")) (Value.str (Str.ofString "new_block") 588) (Value.ref 321)), (DictEntry.mk (PyData.keyHash P (Str.ofString "__static_attributes__")) (Value.str (Str.ofString "__static_attributes__") 596) (Value.ref 322))]) 23) (List.toArray []))
 (.node (Obj.mk (Value.type "tuple") none (Data.seq (List.toArray []) 0) (List.toArray []))
 (.node (Obj.mk Value.none none (Data.func (FuncData.mk (Str.ofString "law") (Str.ofString "law") kA569.1 (FuncBody.stmts kB569.1) kS569.1 0 [] Value.none Value.none Value.none Value.none none Value.none Value.none 0)) (List.toArray []))
 .nil .nil) .nil) (.node (Obj.mk (Value.type "code") none (Data.fields (List.toArray [(Value.str (Str.ofString "put") 759), (Value.str (Str.ofString "Areas.put") 760), (Value.str (Str.ofString "/claim/cut.py") 761), (Value.int 239 0), (Value.int 2 0), (Value.int 0 0), (Value.int 0 0), (Value.int 3 0), (Value.ref 434), (Value.bool Bool.true), (Value.int 181 0), (Value.ref 435), Value.none, (Value.ref 436), (Value.ref 437), (Value.ref 438), (Value.int 764 0), (Value.int 239 0), (Value.str (Str.ofString "/claim/cut.py") 765)])) (List.toArray []))
 .nil .nil)) (.node (Obj.mk (Value.type "tuple") none (Data.seq (List.toArray [(Value.str (Str.ofString "self") 499), (Value.str (Str.ofString "c1") 500), (Value.str (Str.ofString "c2") 501)]) 0) (List.toArray []))
 (.node (Obj.mk (Value.type "super") none (Data.fields (List.toArray [(Value.ref 374), (Value.ref 374), (Value.ref 374)])) (List.toArray []))
 .nil .nil) (.node (Obj.mk (Value.type "function") none (Data.func (FuncData.mk (Str.ofString "restore_choice") (Str.ofString "Areas.restore_choice") kA503.1 (FuncBody.stmts kB503.1) kS503.1 3 [] Value.none Value.none Value.none (Value.str (Str.ofString "clausemill.areas") 664) none (Value.ref 502) Value.none 0)) (List.toArray []))
 .nil .nil)))))) (.node (Obj.mk (Value.type "tuple") none (Data.seq (List.toArray []) 0) (List.toArray []))
 (.node (Obj.mk Value.none none (Data.func (FuncData.mk (Str.ofString "_wall") (Str.ofString "_wall") kA21.1 (FuncBody.stmts kB21.1) kS21.1 0 [] Value.none Value.none Value.none Value.none none Value.none Value.none 0)) (List.toArray []))
 (.node (Obj.mk (Value.type "tuple") none (Data.seq (List.toArray [(Value.ref 31)]) 0) (List.toArray []))
 (.node (Obj.mk (Value.type "function") none (Data.func (FuncData.mk (Str.ofString "fixed_functors") (Str.ofString "fixed_functors") kA67.1 (FuncBody.stmts kB67.1) kS67.1 3 [] Value.none Value.none Value.none (Value.str (Str.ofString "clausemill.symbols") 194) none (Value.ref 66) Value.none 0)) (List.toArray []))
 (.node (Obj.mk (Value.type "tuple") none (Data.seq (List.toArray []) 0) (List.toArray []))
 (.node (Obj.mk (Value.type "tuple") none (Data.seq (List.toArray []) 0) (List.toArray []))
 (.node (Obj.mk Value.none none (Data.func (FuncData.mk (Str.ofString "cut_back") (Str.ofString "Areas.cut_back") kA517.1 (FuncBody.stmts kB517.1) kS517.1 0 [] Value.none Value.none Value.none Value.none none Value.none Value.none 0)) (List.toArray []))
 .nil .nil) .nil) (.node (Obj.mk (Value.type "tuple") none (Data.seq (List.toArray [(Value.str (Str.ofString "self") 701), (Value.str (Str.ofString "symbols") 702), (Value.str (Str.ofString "code") 703), (Value.str (Str.ofString "max_heap") 704), (Value.str (Str.ofString "occurs") 705), (Value.str (Str.ofString "max_bits") 706)]) 0) (List.toArray []))
 .nil .nil)) (.node (Obj.mk (Value.type "function") none (Data.func (FuncData.mk (Str.ofString "__init__") (Str.ofString "Cells.__init__") kA195.1 (FuncBody.stmts kB195.1) kS195.1 3 [] (Value.ref 188) Value.none Value.none (Value.str (Str.ofString "clausemill.store") 404) none (Value.ref 194) Value.none 0)) (List.toArray []))
 (.node (Obj.mk (Value.type "dict") none (Data.dict (List.toArray [(DictEntry.mk (PyData.keyHash P (Str.ofString "__module__")) (Value.str (Str.ofString "__module__") 423) (Value.str (Str.ofString "clausemill.store") 404)), (DictEntry.mk (PyData.keyHash P (Str.ofString "__firstlineno__")) (Value.str (Str.ofString "__firstlineno__") 427) (Value.int 87 426)), (DictEntry.mk (PyData.keyHash P (Str.ofString "__init__")) (Value.str (Str.ofString "__init__") 437) (Value.ref 195)), (DictEntry.mk (PyData.keyHash P (Str.ofString "push")) (Value.str (Str.ofString "push") 446) (Value.ref 202)), (DictEntry.mk (PyData.keyHash P (Str.ofString "new_var")) (Value.str (Str.ofString "new_var") 454) (Value.ref 209)), (DictEntry.mk (PyData.keyHash P (Str.ofString "reserve")) (Value.str (Str.ofString "reserve") 462) (Value.ref 216)), (DictEntry.mk (PyData.keyHash P (Str.ofString "trim")) (Value.str (Str.ofString "trim") 470) (Value.ref 223)), (DictEntry.mk (PyData.keyHash P (Str.ofString "deref")) (Value.str (Str.ofString "deref") 478) (Value.ref 230)), (DictEntry.mk (PyData.keyHash P (Str.ofString "is_unbound")) (Value.str (Str.ofString "is_unbound") 486) (Value.ref 237)), (DictEntry.mk (PyData.keyHash P (Str.ofString "bind")) (Value.str (Str.ofString "bind") 495) (Value.ref 244)), (DictEntry.mk (PyData.keyHash P (Str.ofString "bind_pair")) (Value.str (Str.ofString "bind_pair") 504) (Value.ref 251)), (DictEntry.mk (PyData.keyHash P (Str.ofString "globalise")) (Value.str (Str.ofString "globalise") 512) (Value.ref 258)), (DictEntry.mk (PyData.keyHash P (Str.ofString "mark")) (Value.str (Str.ofString "mark") 519) (Value.ref 265)), (DictEntry.mk (PyData.keyHash P (Str.ofString "undo_to")) (Value.str (Str.ofString "undo_to") 529) (Value.ref 272)), (DictEntry.mk (PyData.keyHash P (Str.ofString "stack_put")) (Value.str (Str.ofString "stack_put") 539) (Value.ref 279)), (DictEntry.mk (PyData.keyHash P (Str.ofString "is_compound")) (Value.str (Str.ofString "is_compound") 547) (Value.ref 286)), (DictEntry.mk (PyData.keyHash P (Str.ofString "functor_of")) (Value.str (Str.ofString "functor_of") 555) (Value.ref 293)), (DictEntry.mk (PyData.keyHash P (Str.ofString "width")) (Value.str (Str.ofString "width") 563) (Value.ref 300)), (DictEntry.mk (PyData.keyHash P (Str.ofString "base")) (Value.str (Str.ofString "base") 571) (Value.ref 307)), (DictEntry.mk (PyData.keyHash P (Str.ofString "arg")) (Value.str (Str.ofString "arg") 580) (Value.ref 314)), (DictEntry.mk (PyData.keyHash P (Str.ofString "new_block")) (Value.str (Str.ofString "new_block") 588) (Value.ref 321)), (DictEntry.mk (PyData.keyHash P (Str.ofString "__static_attributes__")) (Value.str (Str.ofString "__static_attributes__") 596) (Value.ref 322)), (DictEntry.mk (PyData.keyHash P (Str.ofString "__dict__")) (Value.str (Str.ofString "__dict__") 598) (Value.ref 325)), (DictEntry.mk (PyData.keyHash P (Str.ofString "__weakref__")) (Value.str (Str.ofString "__weakref__") 600) (Value.ref 326)), (DictEntry.mk (PyData.keyHash P (Str.ofString "__doc__")) (Value.str (Str.ofString "__doc__") 601) Value.none)]) 4) (List.toArray []))
 .nil .nil) (.node (Obj.mk (Value.type "tuple") none (Data.seq (List.toArray []) 0) (List.toArray []))
 .nil .nil))) (.node (Obj.mk (Value.type "tuple") none (Data.seq (List.toArray []) 0) (List.toArray []))
 (.node (Obj.mk Value.none none (Data.func (FuncData.mk (Str.ofString "system_error") (Str.ofString "system_error") kA165.1 (FuncBody.stmts kB165.1) kS165.1 0 [] Value.none Value.none Value.none Value.none none Value.none Value.none 0)) (List.toArray []))
 (.node (Obj.mk Value.none none (Data.func (FuncData.mk (Str.ofString "functor_of") (Str.ofString "Cells.functor_of") kA293.1 (FuncBody.stmts kB293.1) kS293.1 0 [] Value.none Value.none Value.none Value.none none Value.none Value.none 0)) (List.toArray []))
 (.node (Obj.mk Value.none none (Data.fields (List.toArray [])) (List.toArray []))
 .nil .nil) .nil) (.node (Obj.mk (Value.type "function") none (Data.func (FuncData.mk (Str.ofString "arg") (Str.ofString "Areas.arg") kA419.1 (FuncBody.stmts kB419.1) kS419.1 3 [] Value.none Value.none Value.none (Value.str (Str.ofString "clausemill.areas") 664) none (Value.ref 418) Value.none 0)) (List.toArray []))
 .nil .nil)) (.node (Obj.mk (Value.type "tuple") none (Data.seq (List.toArray []) 0) (List.toArray []))
 (.node (Obj.mk Value.none none (Data.func (FuncData.mk (Str.ofString "list_cells") (Str.ofString "Store.list_cells") kA357.1 (FuncBody.stmts kB357.1) kS357.1 0 [] Value.none Value.none Value.none Value.none none Value.none Value.none 0)) (List.toArray []))
 .nil .nil) (.node (Obj.mk (Value.type "tuple") none (Data.seq (List.toArray []) 0) (List.toArray []))
 .nil .nil)))) (.node (Obj.mk (Value.type "type") none (Data.cls (ClassData.mk (Str.ofString "PrologError") [(Value.ref 31)] [(Value.ref 51), (Value.ref 31), (Value.type "Exception"), (Value.type "BaseException"), (Value.type "object")] 50 (Str.ofString "PrologError") Bool.true [] [] Bool.false none Bool.false)) (List.toArray [(some (Value.ref 35)), none, (some (Value.str (Str.ofString "PrologError") 216)), (some (Value.str (Str.ofString "PrologError") 224)), (some (Value.builtin "Exception.__new__")), (some (Value.bool Bool.true))]))
 (.node (Obj.mk Value.none none (Data.fields (List.toArray [])) (List.toArray []))
 (.node (Obj.mk (Value.type "tuple") none (Data.seq (List.toArray [(Value.str (Str.ofString "self") 358), (Value.str (Str.ofString "text") 359), (Value.str (Str.ofString "arity") 360)]) 0) (List.toArray []))
 (.node (Obj.mk (Value.type "tuple") none (Data.seq (List.toArray [(Value.str (Str.ofString "self") 533), (Value.str (Str.ofString "i") 534), (Value.str (Str.ofString "value") 535), (Value.str (Str.ofString "stack") 536)]) 0) (List.toArray []))
 (.node (Obj.mk (Value.type "function") none (Data.func (FuncData.mk (Str.ofString "environments") (Str.ofString "Areas.environments") kA531.1 (FuncBody.stmts kB531.1) kS531.1 3 [] Value.none Value.none Value.none (Value.str (Str.ofString "clausemill.areas") 664) none (Value.ref 530) Value.none 0)) (List.toArray []))
 .nil .nil) .nil) (.node (Obj.mk Value.none none (Data.func (FuncData.mk (Str.ofString "set_x") (Str.ofString "Areas.set_x") kA405.1 (FuncBody.stmts kB405.1) kS405.1 0 [] Value.none Value.none Value.none Value.none none Value.none Value.none 0)) (List.toArray []))
 .nil .nil)) (.node (Obj.mk Value.none none (Data.fields (List.toArray [])) (List.toArray []))
 (.node (Obj.mk (Value.type "tuple") none (Data.seq (List.toArray []) 0) (List.toArray []))
 .nil .nil) (.node (Obj.mk (Value.type "code") none (Data.fields (List.toArray [(Value.str (Str.ofString "in_chain") 793), (Value.str (Str.ofString "Areas.in_chain") 794), (Value.str (Str.ofString "/claim/cut.py") 795), (Value.int 263 0), (Value.int 2 0), (Value.int 0 0), (Value.int 0 0), (Value.int 3 0), (Value.ref 462), (Value.bool Bool.true), (Value.int 181 0), (Value.ref 463), Value.none, (Value.ref 464), (Value.ref 465), (Value.ref 466), (Value.int 798 0), (Value.int 263 0), (Value.str (Str.ofString "/claim/cut.py") 799)])) (List.toArray []))
 .nil .nil))) (.node (Obj.mk (Value.type "code") none (Data.fields (List.toArray [(Value.str (Str.ofString "name") 317), (Value.str (Str.ofString "Symbols.name") 318), (Value.str (Str.ofString "/claim/cut.py") 319), (Value.int 54 0), (Value.int 2 0), (Value.int 0 0), (Value.int 0 0), (Value.int 3 0), (Value.ref 110), (Value.bool Bool.true), (Value.int 181 0), (Value.ref 111), Value.none, (Value.ref 112), (Value.ref 113), (Value.ref 114), (Value.int 322 0), (Value.int 54 0), (Value.str (Str.ofString "/claim/cut.py") 323)])) (List.toArray []))
 (.node (Obj.mk (Value.type "function") none (Data.func (FuncData.mk (Str.ofString "resource_error") (Str.ofString "resource_error") kA179.1 (FuncBody.stmts kB179.1) kS179.1 3 [] Value.none Value.none Value.none (Value.str (Str.ofString "clausemill.terms") 376) none (Value.ref 178) Value.none 0)) (List.toArray []))
 (.node (Obj.mk (Value.type "function") none (Data.func (FuncData.mk (Str.ofString "base") (Str.ofString "Cells.base") kA307.1 (FuncBody.stmts kB307.1) kS307.1 3 [] Value.none Value.none Value.none (Value.str (Str.ofString "clausemill.store") 404) none (Value.ref 306) Value.none 0)) (List.toArray []))
 (.node (Obj.mk (Value.type "tuple") none (Data.seq (List.toArray []) 0) (List.toArray []))
 .nil .nil) .nil) (.node (Obj.mk Value.none none (Data.fields (List.toArray [])) (List.toArray []))
 .nil .nil)) (.node (Obj.mk (Value.type "code") none (Data.fields (List.toArray [(Value.str (Str.ofString "bind") 487), (Value.str (Str.ofString "Cells.bind") 488), (Value.str (Str.ofString "/claim/cut.py") 489), (Value.int 122 0), (Value.int 3 0), (Value.int 0 0), (Value.int 0 0), (Value.int 3 0), (Value.ref 238), (Value.bool Bool.true), (Value.int 181 0), (Value.ref 239), Value.none, (Value.ref 240), (Value.ref 241), (Value.ref 242), (Value.int 493 0), (Value.int 122 0), (Value.str (Str.ofString "/claim/cut.py") 494)])) (List.toArray []))
 (.node (Obj.mk (Value.type "function") none (Data.func (FuncData.mk (Str.ofString "take_term") (Str.ofString "Store.take_term") kA371.1 (FuncBody.stmts kB371.1) kS371.1 3 [] Value.none Value.none Value.none (Value.str (Str.ofString "clausemill.store") 404) none (Value.ref 370) Value.none 0)) (List.toArray []))
 .nil .nil) (.node (Obj.mk (Value.type "tuple") none (Data.seq (List.toArray [(Value.str (Str.ofString "self") 845), (Value.str (Str.ofString "store") 846), (Value.str (Str.ofString "count") 847), (Value.str (Str.ofString "i") 848)]) 0) (List.toArray []))
 .nil .nil))))) (.node (Obj.mk (Value.type "code") none (Data.fields (List.toArray [(Value.str (Str.ofString "ClausemillError") 198), (Value.str (Str.ofString "ClausemillError") 199), (Value.str (Str.ofString "/claim/cut.py") 200), (Value.int 5 0), (Value.int 0 0), (Value.int 0 0), (Value.int 0 0), (Value.int 0 0), (Value.ref 25), (Value.bool Bool.false), (Value.int 181 0), (Value.ref 26), Value.none, Value.none, Value.none, Value.none, (Value.int 201 0), (Value.int 5 0), (Value.str (Str.ofString "/claim/cut.py") 202)])) (List.toArray []))
 (.node (Obj.mk Value.none none (Data.fields (List.toArray [])) (List.toArray []))
 (.node (Obj.mk (Value.type "tuple") none (Data.seq (List.toArray []) 0) (List.toArray []))
 (.node (Obj.mk Value.none none (Data.fields (List.toArray [])) (List.toArray []))
 (.node (Obj.mk Value.none none (Data.fields (List.toArray [])) (List.toArray []))
 (.node (Obj.mk (Value.type "code") none (Data.fields (List.toArray [(Value.str (Str.ofString "choices") 867), (Value.str (Str.ofString "Areas.choices") 868), (Value.str (Str.ofString "/claim/cut.py") 869), (Value.int 319 0), (Value.int 1 0), (Value.int 0 0), (Value.int 0 0), (Value.int 3 0), (Value.ref 518), (Value.bool Bool.true), (Value.int 181 0), (Value.ref 519), Value.none, (Value.ref 520), (Value.ref 521), (Value.ref 522), (Value.int 874 0), (Value.int 319 0), (Value.str (Str.ofString "/claim/cut.py") 875)])) (List.toArray []))
 .nil .nil) .nil) (.node (Obj.mk (Value.type "tuple") none (Data.seq (List.toArray []) 0) (List.toArray []))
 .nil .nil)) (.node (Obj.mk (Value.type "tuple") none (Data.seq (List.toArray []) 0) (List.toArray []))
 (.node (Obj.mk (Value.type "dict") none (Data.dict (List.toArray [(DictEntry.mk (PyData.keyHash P (Str.ofString "__module__")) (Value.str (Str.ofString "__module__") 611) (Value.str (Str.ofString "clausemill.store") 404)), (DictEntry.mk (PyData.keyHash P (Str.ofString "__qualname__")) (Value.str (Str.ofString "__qualname__") 613) (Value.str (Str.ofString "Store") 612)), (DictEntry.mk (PyData.keyHash P (Str.ofString "__firstlineno__")) (Value.str (Str.ofString "__firstlineno__") 615) (Value.int 171 614)), (DictEntry.mk (PyData.keyHash P (Str.ofString "new_struct")) (Value.str (Str.ofString "new_struct") 624) (Value.ref 342)), (DictEntry.mk (PyData.keyHash P (Str.ofString "build_list")) (Value.str (Str.ofString "build_list") 633) (Value.ref 350)), (DictEntry.mk (PyData.keyHash P (Str.ofString "list_cells")) (Value.str (Str.ofString "list_cells") 641) (Value.ref 357)), (DictEntry.mk (PyData.keyHash P (Str.ofString "put_term")) (Value.str (Str.ofString "put_term") 650) (Value.ref 364)), (DictEntry.mk (PyData.keyHash P (Str.ofString "take_term")) (Value.str (Str.ofString "take_term") 659) (Value.ref 371)), (DictEntry.mk (PyData.keyHash P (Str.ofString "__static_attributes__")) (Value.str (Str.ofString "__static_attributes__") 660) (Value.ref 372))]) 9) (List.toArray []))
 .nil .nil) (.node (Obj.mk Value.none none (Data.func (FuncData.mk (Str.ofString "pop_environment") (Str.ofString "Areas.pop_environment") kA461.1 (FuncBody.stmts kB461.1) kS461.1 0 [] Value.none Value.none Value.none Value.none none Value.none Value.none 0)) (List.toArray []))
 .nil .nil))) (.node (Obj.mk Value.none none (Data.func (FuncData.mk (Str.ofString "func") (Str.ofString "Symbols.func") kA109.1 (FuncBody.stmts kB109.1) kS109.1 0 [] Value.none Value.none Value.none Value.none none Value.none Value.none 0)) (List.toArray []))
 (.node (Obj.mk (Value.type "code") none (Data.fields (List.toArray [(Value.str (Str.ofString "formal_of") 385), (Value.str (Str.ofString "formal_of") 386), (Value.str (Str.ofString "/claim/cut.py") 387), (Value.int 74 0), (Value.int 3 0), (Value.int 0 0), (Value.int 0 0), (Value.int 3 0), (Value.ref 166), (Value.bool Bool.true), (Value.int 181 0), (Value.ref 167), Value.none, (Value.ref 168), (Value.ref 169), (Value.ref 170), (Value.int 393 0), (Value.int 74 0), (Value.str (Str.ofString "/claim/cut.py") 394)])) (List.toArray []))
 (.node (Obj.mk (Value.type "code") none (Data.fields (List.toArray [(Value.str (Str.ofString "width") 556), (Value.str (Str.ofString "Cells.width") 557), (Value.str (Str.ofString "/claim/cut.py") 558), (Value.int 158 0), (Value.int 2 0), (Value.int 0 0), (Value.int 0 0), (Value.int 3 0), (Value.ref 294), (Value.bool Bool.true), (Value.int 181 0), (Value.ref 295), Value.none, (Value.ref 296), (Value.ref 297), (Value.ref 298), (Value.int 561 0), (Value.int 158 0), (Value.str (Str.ofString "/claim/cut.py") 562)])) (List.toArray []))
 (.node (Obj.mk Value.none none (Data.func (FuncData.mk (Str.ofString "_law_row_stands") (Str.ofString "_law_row_stands") kA557.1 (FuncBody.stmts kB557.1) kS557.1 0 [] Value.none Value.none Value.none Value.none none Value.none Value.none 0)) (List.toArray []))
 .nil .nil) .nil) (.node (Obj.mk (Value.type "tuple") none (Data.seq (List.toArray []) 0) (List.toArray []))
 .nil .nil)) (.node (Obj.mk Value.none none (Data.func (FuncData.mk (Str.ofString "is_unbound") (Str.ofString "Cells.is_unbound") kA237.1 (FuncBody.stmts kB237.1) kS237.1 0 [] Value.none Value.none Value.none Value.none none Value.none Value.none 0)) (List.toArray []))
 (.node (Obj.mk (Value.type "code") none (Data.fields (List.toArray [(Value.str (Str.ofString "put_term") 642), (Value.str (Str.ofString "Store.put_term") 643), (Value.str (Str.ofString "/claim/cut.py") 644), (Value.int 182 0), (Value.int 3 0), (Value.int 0 0), (Value.int 0 0), (Value.int 3 0), (Value.ref 358), (Value.bool Bool.true), (Value.int 181 0), (Value.ref 359), Value.none, (Value.ref 360), (Value.ref 361), (Value.ref 362), (Value.int 648 0), (Value.int 182 0), (Value.str (Str.ofString "/claim/cut.py") 649)])) (List.toArray []))
 .nil .nil) (.node (Obj.mk Value.none none (Data.fields (List.toArray [])) (List.toArray []))
 .nil .nil)))) (.node (Obj.mk (Value.type "code") none (Data.fields (List.toArray [(Value.str (Str.ofString "fixed_atoms") 245), (Value.str (Str.ofString "fixed_atoms") 246), (Value.str (Str.ofString "/claim/cut.py") 247), (Value.int 13 0), (Value.int 0 0), (Value.int 0 0), (Value.int 0 0), (Value.int 3 0), (Value.ref 54), (Value.bool Bool.true), (Value.int 181 0), (Value.ref 55), Value.none, (Value.ref 56), (Value.ref 57), (Value.ref 58), (Value.int 248 0), (Value.int 13 0), (Value.str (Str.ofString "/claim/cut.py") 249)])) (List.toArray []))
 (.node (Obj.mk (Value.type "tuple") none (Data.seq (List.toArray [(Value.str (Str.ofString "self") 291), (Value.str (Str.ofString "number") 292)]) 0) (List.toArray []))
 (.node (Obj.mk (Value.type "getset_descriptor") none (Data.fields (List.toArray [(Value.str (Str.ofString "__dict__") 369), (Value.ref 154), (Value.builtin "function.__dict__"), (Value.builtin "function.__dict__#set")])) (List.toArray []))
 (.node (Obj.mk (Value.type "tuple") none (Data.seq (List.toArray []) 0) (List.toArray []))
 (.node (Obj.mk (Value.type "tuple") none (Data.seq (List.toArray []) 0) (List.toArray []))
 .nil .nil) .nil) (.node (Obj.mk (Value.type "code") none (Data.fields (List.toArray [(Value.str (Str.ofString "set_arguments") 726), (Value.str (Str.ofString "Areas.set_arguments") 727), (Value.str (Str.ofString "/claim/cut.py") 728), (Value.int 227 0), (Value.int 2 0), (Value.int 0 0), (Value.int 0 0), (Value.int 3 0), (Value.ref 406), (Value.bool Bool.true), (Value.int 181 0), (Value.ref 407), Value.none, (Value.ref 408), (Value.ref 409), (Value.ref 410), (Value.int 731 0), (Value.int 227 0), (Value.str (Str.ofString "/claim/cut.py") 732)])) (List.toArray []))
 .nil .nil)) (.node (Obj.mk (Value.type "tuple") none (Data.seq (List.toArray [(Value.str (Str.ofString "self") 466), (Value.str (Str.ofString "h") 467)]) 0) (List.toArray []))
 (.node (Obj.mk (Value.type "tuple") none (Data.seq (List.toArray []) 0) (List.toArray []))
 .nil .nil) (.node (Obj.mk (Value.type "function") none (Data.func (FuncData.mk (Str.ofString "set_choice") (Str.ofString "Areas.set_choice") kA475.1 (FuncBody.stmts kB475.1) kS475.1 3 [] Value.none Value.none Value.none (Value.str (Str.ofString "clausemill.areas") 664) none (Value.ref 474) Value.none 0)) (List.toArray []))
 .nil .nil))) (.node (Obj.mk (Value.type "function") none (Data.func (FuncData.mk (Str.ofString "arity") (Str.ofString "Symbols.arity") kA123.1 (FuncBody.stmts kB123.1) kS123.1 3 [] Value.none Value.none Value.none (Value.str (Str.ofString "clausemill.symbols") 194) none (Value.ref 122) Value.none 0)) (List.toArray []))
 (.node (Obj.mk (Value.type "frame") none Data.plain (List.toArray [(some (Value.ref 186)), (some (Value.ref 3)), (some (Value.ref 183)), none, (some (Value.str (Str.ofString "clausemill.store") 404)), none, (some (Value.ref 0))]))
 (.node (Obj.mk (Value.type "tuple") none (Data.seq (List.toArray []) 0) (List.toArray []))
 .nil .nil) (.node (Obj.mk (Value.type "tuple") none (Data.seq (List.toArray [(Value.str (Str.ofString "self") 770)]) 0) (List.toArray []))
 .nil .nil)) (.node (Obj.mk (Value.type "function") none (Data.func (FuncData.mk (Str.ofString "bind_pair") (Str.ofString "Cells.bind_pair") kA251.1 (FuncBody.stmts kB251.1) kS251.1 3 [] Value.none Value.none Value.none (Value.str (Str.ofString "clausemill.store") 404) none (Value.ref 250) Value.none 0)) (List.toArray []))
 (.node (Obj.mk (Value.type "dict") none (Data.dict (List.toArray [(DictEntry.mk (PyData.keyHash P (Str.ofString "__module__")) (Value.str (Str.ofString "__module__") 691) (Value.str (Str.ofString "clausemill.areas") 664)), (DictEntry.mk (PyData.keyHash P (Str.ofString "__qualname__")) (Value.str (Str.ofString "__qualname__") 693) (Value.str (Str.ofString "Areas") 692)), (DictEntry.mk (PyData.keyHash P (Str.ofString "__firstlineno__")) (Value.str (Str.ofString "__firstlineno__") 695) (Value.int 197 694)), (DictEntry.mk (PyData.keyHash P (Str.ofString "__init__")) (Value.str (Str.ofString "__init__") 709) (Value.ref 391)), (DictEntry.mk (PyData.keyHash P (Str.ofString "reset")) (Value.str (Str.ofString "reset") 716) (Value.ref 398)), (DictEntry.mk (PyData.keyHash P (Str.ofString "set_x")) (Value.str (Str.ofString "set_x") 725) (Value.ref 405)), (DictEntry.mk (PyData.keyHash P (Str.ofString "set_arguments")) (Value.str (Str.ofString "set_arguments") 733) (Value.ref 412)), (DictEntry.mk (PyData.keyHash P (Str.ofString "arg")) (Value.str (Str.ofString "arg") 741) (Value.ref 419)), (DictEntry.mk (PyData.keyHash P (Str.ofString "unify")) (Value.str (Str.ofString "unify") 750) (Value.ref 426)), (DictEntry.mk (PyData.keyHash P (Str.ofString "take")) (Value.str (Str.ofString "take") 758) (Value.ref 433)), (DictEntry.mk (PyData.keyHash P (Str.ofString "put")) (Value.str (Str.ofString "put") 766) (Value.ref 440)), (DictEntry.mk (PyData.keyHash P (Str.ofString "top")) (Value.str (Str.ofString "top") 773) (Value.ref 447)), (DictEntry.mk (PyData.keyHash P (Str.ofString "push_environment")) (Value.str (Str.ofString "push_environment") 784) (Value.ref 454)), (DictEntry.mk (PyData.keyHash P (Str.ofString "pop_environment")) (Value.str (Str.ofString "pop_environment") 792) (Value.ref 461)), (DictEntry.mk (PyData.keyHash P (Str.ofString "in_chain")) (Value.str (Str.ofString "in_chain") 800) (Value.ref 468)), (DictEntry.mk (PyData.keyHash P (Str.ofString "set_choice")) (Value.str (Str.ofString "set_choice") 809) (Value.ref 475)), (DictEntry.mk (PyData.keyHash P (Str.ofString "push_choice")) (Value.str (Str.ofString "push_choice") 823) (Value.ref 482)), (DictEntry.mk (PyData.keyHash P (Str.ofString "set_alternative")) (Value.str (Str.ofString "set_alternative") 832) (Value.ref 489)), (DictEntry.mk (PyData.keyHash P (Str.ofString "choice_part")) (Value.str (Str.ofString "choice_part") 841) (Value.ref 496)), (DictEntry.mk (PyData.keyHash P (Str.ofString "restore_choice")) (Value.str (Str.ofString "restore_choice") 851) (Value.ref 503)), (DictEntry.mk (PyData.keyHash P (Str.ofString "pop_choice")) (Value.str (Str.ofString "pop_choice") 858) (Value.ref 510)), (DictEntry.mk (PyData.keyHash P (Str.ofString "cut_back")) (Value.str (Str.ofString "cut_back") 866) (Value.ref 517)), (DictEntry.mk (PyData.keyHash P (Str.ofString "choices")) (Value.str (Str.ofString "choices") 876) (Value.ref 524)), (DictEntry.mk (PyData.keyHash P (Str.ofString "environments")) (Value.str (Str.ofString "environments") 885) (Value.ref 531)), (DictEntry.mk (PyData.keyHash P (Str.ofString "__static_attributes__")) (Value.str (Str.ofString "__static_attributes__") 904) (Value.ref 532))]) 25) (List.toArray []))
 .nil .nil) (.node (Obj.mk (Value.type "tuple") none (Data.seq (List.toArray []) 0) (List.toArray []))
 .nil .nil))))))) (.node (W.boot_o_5 P)
 (.node (W.boot_o_9 P)
 (.node (Obj.mk (Value.type "tuple") none (Data.seq (List.toArray [(Value.str (Str.ofString "k") 190)]) 0) (List.toArray []))
 (.node (Obj.mk (Value.type "super") none (Data.fields (List.toArray [(Value.ref 31), (Value.ref 31), (Value.ref 31)])) (List.toArray []))
 (.node (Obj.mk Value.none none (Data.func (FuncData.mk (Str.ofString "fixed_functors") (Str.ofString "fixed_functors") kA67.1 (FuncBody.stmts kB67.1) kS67.1 0 [] Value.none Value.none Value.none Value.none none Value.none Value.none 0)) (List.toArray []))
 (.node (Obj.mk (Value.type "code") none (Data.fields (List.toArray [(Value.str (Str.ofString "label") 333), (Value.str (Str.ofString "Symbols.label") 334), (Value.str (Str.ofString "/claim/cut.py") 335), (Value.int 60 0), (Value.int 2 0), (Value.int 0 0), (Value.int 0 0), (Value.int 3 0), (Value.ref 124), (Value.bool Bool.true), (Value.int 181 0), (Value.ref 125), Value.none, (Value.ref 126), (Value.ref 127), (Value.ref 128), (Value.int 338 0), (Value.int 60 0), (Value.str (Str.ofString "/claim/cut.py") 339)])) (List.toArray []))
 (.node (Obj.mk (Value.type "code") none (Data.fields (List.toArray [(Value.str (Str.ofString "globalise") 505), (Value.str (Str.ofString "Cells.globalise") 506), (Value.str (Str.ofString "/claim/cut.py") 507), (Value.int 128 0), (Value.int 2 0), (Value.int 0 0), (Value.int 0 0), (Value.int 3 0), (Value.ref 252), (Value.bool Bool.true), (Value.int 181 0), (Value.ref 253), Value.none, (Value.ref 254), (Value.ref 255), (Value.ref 256), (Value.int 510 0), (Value.int 128 0), (Value.str (Str.ofString "/claim/cut.py") 511)])) (List.toArray []))
 (.node (Obj.mk (Value.type "tuple") none (Data.seq (List.toArray [(Value.str (Str.ofString "self") 862), (Value.str (Str.ofString "b") 863)]) 0) (List.toArray []))
 .nil .nil) .nil) (.node (Obj.mk (Value.type "tuple") none (Data.seq (List.toArray []) 0) (List.toArray []))
 .nil .nil)) (.node (Obj.mk Value.none none (Data.func (FuncData.mk (Str.ofString "__init__") (Str.ofString "Cells.__init__") kA195.1 (FuncBody.stmts kB195.1) kS195.1 0 [] Value.none Value.none Value.none Value.none none Value.none Value.none 0)) (List.toArray []))
 (.node (Obj.mk (Value.type "function") none (Data.func (FuncData.mk (Str.ofString "new_block") (Str.ofString "Cells.new_block") kA321.1 (FuncBody.stmts kB321.1) kS321.1 3 [] Value.none Value.none Value.none (Value.str (Str.ofString "clausemill.store") 404) none (Value.ref 320) Value.none 0)) (List.toArray []))
 .nil .nil) (.node (Obj.mk Value.none none (Data.fields (List.toArray [])) (List.toArray []))
 .nil .nil))) (.node (Obj.mk Value.none none (Data.fields (List.toArray [])) (List.toArray []))
 (.node (Obj.mk (Value.type "tuple") none (Data.seq (List.toArray [(Value.str (Str.ofString "formal") 381)]) 0) (List.toArray []))
 (.node (Obj.mk (Value.type "tuple") none (Data.seq (List.toArray [(Value.str (Str.ofString "self") 551), (Value.str (Str.ofString "cell") 552)]) 0) (List.toArray []))
 (.node (Obj.mk (Value.type "function") none (Data.func (FuncData.mk (Str.ofString "_law_digits") (Str.ofString "_law_digits") kA545.1 (FuncBody.stmts kB545.1) kS545.1 3 [] Value.none Value.none Value.none (Value.str (Str.ofString "law_ok0027_01") 912) none (Value.ref 544) Value.none 0)) (List.toArray []))
 .nil .nil) .nil) (.node (Obj.mk Value.none none (Data.func (FuncData.mk (Str.ofString "arg") (Str.ofString "Areas.arg") kA419.1 (FuncBody.stmts kB419.1) kS419.1 0 [] Value.none Value.none Value.none Value.none none Value.none Value.none 0)) (List.toArray []))
 .nil .nil)) (.node (Obj.mk Value.none none (Data.fields (List.toArray [])) (List.toArray []))
 (.node (Obj.mk (Value.type "tuple") none (Data.seq (List.toArray [(Value.str (Str.ofString "self") 637), (Value.str (Str.ofString "cell") 638)]) 0) (List.toArray []))
 .nil .nil) (.node (Obj.mk (Value.type "code") none (Data.fields (List.toArray [(Value.str (Str.ofString "push_choice") 810), (Value.str (Str.ofString "Areas.push_choice") 811), (Value.str (Str.ofString "/claim/cut.py") 812), (Value.int 276 0), (Value.int 3 0), (Value.int 0 0), (Value.int 0 0), (Value.int 3 0), (Value.ref 476), (Value.bool Bool.true), (Value.int 181 0), (Value.ref 477), Value.none, (Value.ref 478), (Value.ref 479), (Value.ref 480), (Value.int 821 0), (Value.int 276 0), (Value.str (Str.ofString "/claim/cut.py") 822)])) (List.toArray []))
 .nil .nil)))) (.node (Obj.mk (Value.type "tuple") none (Data.seq (List.toArray [(Value.str (Str.ofString "ball") 236)]) 0) (List.toArray []))
 (.node (Obj.mk (Value.type "function") none (Data.func (FuncData.mk (Str.ofString "__init__") (Str.ofString "Symbols.__init__") kA81.1 (FuncBody.stmts kB81.1) kS81.1 3 [] Value.none Value.none Value.none (Value.str (Str.ofString "clausemill.symbols") 194) none (Value.ref 80) Value.none 0)) (List.toArray []))
 (.node (Obj.mk (Value.type "tuple") none (Data.seq (List.toArray []) 0) (List.toArray []))
 (.node (Obj.mk (Value.type "tuple") none (Data.seq (List.toArray []) 0) (List.toArray []))
 (.node (Obj.mk Value.none none (Data.func (FuncData.mk (Str.ofString "environments") (Str.ofString "Areas.environments") kA531.1 (FuncBody.stmts kB531.1) kS531.1 0 [] Value.none Value.none Value.none Value.none none Value.none Value.none 0)) (List.toArray []))
 .nil .nil) .nil) (.node (Obj.mk (Value.type "tuple") none (Data.seq (List.toArray [(Value.str (Str.ofString "self") 720), (Value.str (Str.ofString "number") 721), (Value.str (Str.ofString "cell") 722)]) 0) (List.toArray []))
 .nil .nil)) (.node (Obj.mk (Value.type "function") none (Data.func (FuncData.mk (Str.ofString "new_var") (Str.ofString "Cells.new_var") kA209.1 (FuncBody.stmts kB209.1) kS209.1 3 [] Value.none Value.none Value.none (Value.str (Str.ofString "clausemill.store") 404) none (Value.ref 208) Value.none 0)) (List.toArray []))
 (.node (Obj.mk Value.none none (Data.fields (List.toArray [])) (List.toArray []))
 .nil .nil) (.node (Obj.mk (Value.type "tuple") none (Data.seq (List.toArray []) 0) (List.toArray []))
 .nil .nil))) (.node (Obj.mk (Value.type "tuple") none (Data.seq (List.toArray []) 0) (List.toArray []))
 (.node (Obj.mk Value.none none (Data.func (FuncData.mk (Str.ofString "resource_error") (Str.ofString "resource_error") kA179.1 (FuncBody.stmts kB179.1) kS179.1 0 [] Value.none Value.none Value.none Value.none none Value.none Value.none 0)) (List.toArray []))
 (.node (Obj.mk Value.none none (Data.func (FuncData.mk (Str.ofString "base") (Str.ofString "Cells.base") kA307.1 (FuncBody.stmts kB307.1) kS307.1 0 [] Value.none Value.none Value.none Value.none none Value.none Value.none 0)) (List.toArray []))
 (.node (Obj.mk (Value.type "code") none (Data.fields (List.toArray [(Value.str (Str.ofString "_law_stands") 939), (Value.str (Str.ofString "_law_stands") 940), (Value.str (Str.ofString "/claim/cut.py") 941), (Value.int 357 0), (Value.int 3 0), (Value.int 0 0), (Value.int 0 0), (Value.int 3 0), (Value.ref 558), (Value.bool Bool.true), (Value.int 181 0), (Value.ref 559), Value.none, Value.none, Value.none, (Value.ref 560), (Value.int 942 0), (Value.int 357 0), (Value.str (Str.ofString "/claim/cut.py") 943)])) (List.toArray []))
 .nil .nil) .nil) (.node (Obj.mk (Value.type "function") none (Data.func (FuncData.mk (Str.ofString "take") (Str.ofString "Areas.take") kA433.1 (FuncBody.stmts kB433.1) kS433.1 3 [] Value.none Value.none Value.none (Value.str (Str.ofString "clausemill.areas") 664) none (Value.ref 432) Value.none 0)) (List.toArray []))
 .nil .nil)) (.node (Obj.mk (Value.type "tuple") none (Data.seq (List.toArray []) 0) (List.toArray []))
 (.node (Obj.mk Value.none none (Data.func (FuncData.mk (Str.ofString "take_term") (Str.ofString "Store.take_term") kA371.1 (FuncBody.stmts kB371.1) kS371.1 0 [] Value.none Value.none Value.none Value.none none Value.none Value.none 0)) (List.toArray []))
 .nil .nil) (.node (Obj.mk (Value.type "tuple") none (Data.seq (List.toArray []) 0) (List.toArray []))
 .nil .nil))))) (.node (Obj.mk (Value.type "tuple") none (Data.seq (List.toArray []) 0) (List.toArray []))
 (.node (Obj.mk (Value.type "frame") none Data.plain (List.toArray [(some (Value.ref 40)), (some (Value.ref 3)), (some (Value.ref 37)), none, (some (Value.str (Str.ofString "clausemill.symbols") 194)), none, (some (Value.ref 0))]))
 (.node (Obj.mk (Value.type "code") none (Data.fields (List.toArray [(Value.str (Str.ofString "Symbols") 259), (Value.str (Str.ofString "Symbols") 260), (Value.str (Str.ofString "/claim/cut.py") 261), (Value.int 17 0), (Value.int 0 0), (Value.int 0 0), (Value.int 0 0), (Value.int 0 0), (Value.ref 71), (Value.bool Bool.false), (Value.int 181 0), (Value.ref 72), Value.none, Value.none, Value.none, Value.none, (Value.int 262 0), (Value.int 17 0), (Value.str (Str.ofString "/claim/cut.py") 263)])) (List.toArray []))
 (.node (Obj.mk (Value.type "function") none (Data.func (FuncData.mk (Str.ofString "count") (Str.ofString "Symbols.count") kA137.1 (FuncBody.stmts kB137.1) kS137.1 3 [] Value.none Value.none Value.none (Value.str (Str.ofString "clausemill.symbols") 194) none (Value.ref 136) Value.none 0)) (List.toArray []))
 (.node (Obj.mk (Value.type "function") none (Data.func (FuncData.mk (Str.ofString "mark") (Str.ofString "Cells.mark") kA265.1 (FuncBody.stmts kB265.1) kS265.1 3 [] Value.none Value.none Value.none (Value.str (Str.ofString "clausemill.store") 404) none (Value.ref 264) Value.none 0)) (List.toArray []))
 (.node (Obj.mk (Value.type "tuple") none (Data.seq (List.toArray []) 0) (List.toArray []))
 .nil .nil) .nil) (.node (Obj.mk Value.none none (Data.fields (List.toArray [])) (List.toArray []))
 .nil .nil)) (.node (Obj.mk (Value.type "code") none (Data.fields (List.toArray [(Value.str (Str.ofString "push") 438), (Value.str (Str.ofString "Cells.push") 439), (Value.str (Str.ofString "/claim/cut.py") 440), (Value.int 98 0), (Value.int 2 0), (Value.int 0 0), (Value.int 0 0), (Value.int 3 0), (Value.ref 196), (Value.bool Bool.true), (Value.int 181 0), (Value.ref 197), Value.none, (Value.ref 198), (Value.ref 199), (Value.ref 200), (Value.int 444 0), (Value.int 98 0), (Value.str (Str.ofString "/claim/cut.py") 445)])) (List.toArray []))
 (.node (Obj.mk (Value.type "tuple") none (Data.seq (List.toArray [(Value.ref 324)]) 0) (List.toArray []))
 .nil .nil) (.node (Obj.mk (Value.type "tuple") none (Data.seq (List.toArray [(Value.str (Str.ofString "self") 788), (Value.str (Str.ofString "stack") 789)]) 0) (List.toArray []))
 .nil .nil))) (.node (Obj.mk (Value.type "tuple") none (Data.seq (List.toArray [(Value.str (Str.ofString "self") 311), (Value.str (Str.ofString "text") 312), (Value.str (Str.ofString "arity") 313)]) 0) (List.toArray []))
 (.node (Obj.mk (Value.type "tuple") none (Data.seq (List.toArray []) 0) (List.toArray []))
 (.node (Obj.mk (Value.type "tuple") none (Data.seq (List.toArray []) 0) (List.toArray []))
 (.node (Obj.mk (Value.type "tuple") none (Data.seq (List.toArray []) 0) (List.toArray []))
 .nil .nil) .nil) (.node (Obj.mk (Value.type "code") none (Data.fields (List.toArray [(Value.str (Str.ofString "unify") 742), (Value.str (Str.ofString "Areas.unify") 743), (Value.str (Str.ofString "/claim/cut.py") 744), (Value.int 233 0), (Value.int 3 0), (Value.int 0 0), (Value.int 0 0), (Value.int 3 0), (Value.ref 420), (Value.bool Bool.true), (Value.int 181 0), (Value.ref 421), Value.none, (Value.ref 422), (Value.ref 423), (Value.ref 424), (Value.int 748 0), (Value.int 233 0), (Value.str (Str.ofString "/claim/cut.py") 749)])) (List.toArray []))
 .nil .nil)) (.node (Obj.mk (Value.type "tuple") none (Data.seq (List.toArray [(Value.str (Str.ofString "self") 482), (Value.str (Str.ofString "cell") 483)]) 0) (List.toArray []))
 (.node (Obj.mk (Value.type "tuple") none (Data.seq (List.toArray []) 0) (List.toArray []))
 .nil .nil) (.node (Obj.mk (Value.type "function") none (Data.func (FuncData.mk (Str.ofString "set_alternative") (Str.ofString "Areas.set_alternative") kA489.1 (FuncBody.stmts kB489.1) kS489.1 3 [] Value.none Value.none Value.none (Value.str (Str.ofString "clausemill.areas") 664) none (Value.ref 488) Value.none 0)) (List.toArray []))
 .nil .nil)))) (.node (Obj.mk (Value.type "tuple") none (Data.seq (List.toArray []) 0) (List.toArray []))
 (.node (Obj.mk (Value.type "tuple") none (Data.seq (List.toArray []) 0) (List.toArray []))
 (.node (Obj.mk (Value.type "dict") none (Data.dict (List.toArray [(DictEntry.mk (PyData.keyHash P (Str.ofString "__module__")) (Value.str (Str.ofString "__module__") 264) (Value.str (Str.ofString "clausemill.symbols") 194)), (DictEntry.mk (PyData.keyHash P (Str.ofString "__firstlineno__")) (Value.str (Str.ofString "__firstlineno__") 268) (Value.int 17 267)), (DictEntry.mk (PyData.keyHash P (Str.ofString "__init__")) (Value.str (Str.ofString "__init__") 277) (Value.ref 81)), (DictEntry.mk (PyData.keyHash P (Str.ofString "atom")) (Value.str (Str.ofString "atom") 287) (Value.ref 88)), (DictEntry.mk (PyData.keyHash P (Str.ofString "text")) (Value.str (Str.ofString "text") 295) (Value.ref 95)), (DictEntry.mk (PyData.keyHash P (Str.ofString "functor")) (Value.str (Str.ofString "functor") 307) (Value.ref 102)), (DictEntry.mk (PyData.keyHash P (Str.ofString "func")) (Value.str (Str.ofString "func") 316) (Value.ref 109)), (DictEntry.mk (PyData.keyHash P (Str.ofString "name")) (Value.str (Str.ofString "name") 324) (Value.ref 116)), (DictEntry.mk (PyData.keyHash P (Str.ofString "arity")) (Value.str (Str.ofString "arity") 332) (Value.ref 123)), (DictEntry.mk (PyData.keyHash P (Str.ofString "label")) (Value.str (Str.ofString "label") 340) (Value.ref 130)), (DictEntry.mk (PyData.keyHash P (Str.ofString "count")) (Value.str (Str.ofString "count") 347) (Value.ref 137)), (DictEntry.mk (PyData.keyHash P (Str.ofString "functor_count")) (Value.str (Str.ofString "functor_count") 354) (Value.ref 144)), (DictEntry.mk (PyData.keyHash P (Str.ofString "known")) (Value.str (Str.ofString "known") 363) (Value.ref 151)), (DictEntry.mk (PyData.keyHash P (Str.ofString "__static_attributes__")) (Value.str (Str.ofString "__static_attributes__") 368) (Value.ref 152)), (DictEntry.mk (PyData.keyHash P (Str.ofString "__dict__")) (Value.str (Str.ofString "__dict__") 370) (Value.ref 155)), (DictEntry.mk (PyData.keyHash P (Str.ofString "__weakref__")) (Value.str (Str.ofString "__weakref__") 372) (Value.ref 156)), (DictEntry.mk (PyData.keyHash P (Str.ofString "__doc__")) (Value.str (Str.ofString "__doc__") 373) Value.none)]) 4) (List.toArray []))
 (.node (Obj.mk Value.none none (Data.fields (List.toArray [])) (List.toArray []))
 (.node (Obj.mk (Value.type "super") none (Data.fields (List.toArray [(Value.ref 534), (Value.ref 534), (Value.ref 534)])) (List.toArray []))
 .nil .nil) .nil) (.node (Obj.mk (Value.type "tuple") none (Data.seq (List.toArray []) 0) (List.toArray []))
 .nil .nil)) (.node (Obj.mk (Value.type "tuple") none (Data.seq (List.toArray []) 0) (List.toArray []))
 (.node (Obj.mk Value.none none (Data.fields (List.toArray [])) (List.toArray []))
 .nil .nil) (.node (Obj.mk Value.none none (Data.func (FuncData.mk (Str.ofString "set_choice") (Str.ofString "Areas.set_choice") kA475.1 (FuncBody.stmts kB475.1) kS475.1 0 [] Value.none Value.none Value.none Value.none none Value.none Value.none 0)) (List.toArray []))
 .nil .nil))) (.node (Obj.mk Value.none none (Data.func (FuncData.mk (Str.ofString "arity") (Str.ofString "Symbols.arity") kA123.1 (FuncBody.stmts kB123.1) kS123.1 0 [] Value.none Value.none Value.none Value.none none Value.none Value.none 0)) (List.toArray []))
 (.node (Obj.mk Value.none none (Data.fields (List.toArray [(Value.int 89 0), (Value.int 4 0), (Value.ref 194), (Value.int 98 0), (Value.int 4 0), (Value.ref 201), (Value.int 105 0), (Value.int 4 0), (Value.ref 208), (Value.int 110 0), (Value.int 4 0), (Value.ref 215), (Value.int 113 0), (Value.int 4 0), (Value.ref 222), (Value.int 116 0), (Value.int 4 0), (Value.ref 229), (Value.int 119 0), (Value.int 4 0), (Value.ref 236), (Value.int 122 0), (Value.int 4 0), (Value.ref 243), (Value.int 125 0), (Value.int 4 0), (Value.ref 250), (Value.int 128 0), (Value.int 4 0), (Value.ref 257), (Value.int 131 0), (Value.int 4 0), (Value.ref 264), (Value.int 134 0), (Value.int 4 0), (Value.ref 271), (Value.int 143 0), (Value.int 4 0), (Value.ref 278), (Value.int 152 0), (Value.int 4 0), (Value.ref 285), (Value.int 155 0), (Value.int 4 0), (Value.ref 292), (Value.int 158 0), (Value.int 4 0), (Value.ref 299), (Value.int 161 0), (Value.int 4 0), (Value.ref 306), (Value.int 166 0), (Value.int 4 0), (Value.ref 313), (Value.int 169 0), (Value.int 4 0), (Value.ref 320)])) (List.toArray []))
 (.node (Obj.mk (Value.type "code") none (Data.fields (List.toArray [(Value.str (Str.ofString "arg") 572), (Value.str (Str.ofString "Cells.arg") 573), (Value.str (Str.ofString "/claim/cut.py") 574), (Value.int 166 0), (Value.int 3 0), (Value.int 0 0), (Value.int 0 0), (Value.int 3 0), (Value.ref 308), (Value.bool Bool.true), (Value.int 181 0), (Value.ref 309), Value.none, (Value.ref 310), (Value.ref 311), (Value.ref 312), (Value.int 578 0), (Value.int 166 0), (Value.str (Str.ofString "/claim/cut.py") 579)])) (List.toArray []))
 (.node (Obj.mk (Value.type "function") none (Data.func (FuncData.mk (Str.ofString "law") (Str.ofString "law") kA569.1 (FuncBody.stmts kB569.1) kS569.1 3 [] Value.none Value.none Value.none (Value.str (Str.ofString "law_ok0027_01") 912) none (Value.ref 568) Value.none 0)) (List.toArray []))
 .nil .nil) .nil) (.node (Obj.mk (Value.type "tuple") none (Data.seq (List.toArray []) 0) (List.toArray []))
 .nil .nil)) (.node (Obj.mk Value.none none (Data.func (FuncData.mk (Str.ofString "bind_pair") (Str.ofString "Cells.bind_pair") kA251.1 (FuncBody.stmts kB251.1) kS251.1 0 [] Value.none Value.none Value.none Value.none none Value.none Value.none 0)) (List.toArray []))
 (.node (Obj.mk (Value.type "tuple") none (Data.seq (List.toArray []) 0) (List.toArray []))
 .nil .nil) (.node (Obj.mk Value.none none (Data.fields (List.toArray [])) (List.toArray []))
 .nil .nil)))))) (.node (Obj.mk (Value.type "code") none (Data.fields (List.toArray [(Value.str (Str.ofString "<module>") 182), (Value.str (Str.ofString "<module>") 183), (Value.str (Str.ofString "/claim/cut.py") 184), (Value.int 1 0), (Value.int 0 0), (Value.int 0 0), (Value.int 0 0), (Value.int 0 0), (Value.ref 11), (Value.bool Bool.false), (Value.int 181 0), (Value.ref 12), Value.none, Value.none, Value.none, Value.none, (Value.int 185 0), (Value.int 1 0), (Value.str (Str.ofString "/claim/cut.py") 186)])) (List.toArray []))
 (.node (Obj.mk (Value.type "function") none (Data.func (FuncData.mk (Str.ofString "_wall") (Str.ofString "_wall") kA21.1 (FuncBody.stmts kB21.1) kS21.1 3 [] Value.none Value.none Value.none (Value.str (Str.ofString "__main__") 164) none (Value.ref 20) Value.none 0)) (List.toArray []))
 (.node (Obj.mk (Value.type "dict") none (Data.dict (List.toArray [(DictEntry.mk (PyData.keyHash P (Str.ofString "__module__")) (Value.str (Str.ofString "__module__") 223) (Value.str (Str.ofString "clausemill.symbols") 194)), (DictEntry.mk (PyData.keyHash P (Str.ofString "__qualname__")) (Value.str (Str.ofString "__qualname__") 225) (Value.str (Str.ofString "PrologError") 224)), (DictEntry.mk (PyData.keyHash P (Str.ofString "__firstlineno__")) (Value.str (Str.ofString "__firstlineno__") 227) (Value.int 7 226)), (DictEntry.mk (PyData.keyHash P (Str.ofString "__init__")) (Value.str (Str.ofString "__init__") 235) (Value.ref 48)), (DictEntry.mk (PyData.keyHash P (Str.ofString "__static_attributes__")) (Value.str (Str.ofString "__static_attributes__") 237) (Value.ref 49))]) 5) (List.toArray []))
 (.node (Obj.mk (Value.type "builtin_function_or_method") none (Data.fields (List.toArray [(Value.builtin "type.__prepare__"), (Value.type "type")])) (List.toArray []))
 (.node (Obj.mk (Value.type "tuple") none (Data.seq (List.toArray [(Value.str (Str.ofString "self") 344)]) 0) (List.toArray []))
 (.node (Obj.mk (Value.type "tuple") none (Data.seq (List.toArray [(Value.str (Str.ofString "self") 516)]) 0) (List.toArray []))
 (.node (Obj.mk (Value.type "function") none (Data.func (FuncData.mk (Str.ofString "cut_back") (Str.ofString "Areas.cut_back") kA517.1 (FuncBody.stmts kB517.1) kS517.1 3 [] Value.none Value.none Value.none (Value.str (Str.ofString "clausemill.areas") 664) none (Value.ref 516) Value.none 0)) (List.toArray []))
 .nil .nil) .nil) (.node (Obj.mk Value.none none (Data.func (FuncData.mk (Str.ofString "__init__") (Str.ofString "Areas.__init__") kA391.1 (FuncBody.stmts kB391.1) kS391.1 0 [] Value.none Value.none Value.none Value.none none Value.none Value.none 0)) (List.toArray []))
 .nil .nil)) (.node (Obj.mk Value.none none (Data.fields (List.toArray [])) (List.toArray []))
 (.node (Obj.mk (Value.type "getset_descriptor") none (Data.fields (List.toArray [(Value.str (Str.ofString "__dict__") 597), (Value.ref 324), (Value.builtin "function.__dict__"), (Value.builtin "function.__dict__#set")])) (List.toArray []))
 .nil .nil) (.node (Obj.mk (Value.type "code") none (Data.fields (List.toArray [(Value.str (Str.ofString "push_environment") 774), (Value.str (Str.ofString "Areas.push_environment") 775), (Value.str (Str.ofString "/claim/cut.py") 776), (Value.int 249 0), (Value.int 2 0), (Value.int 0 0), (Value.int 0 0), (Value.int 3 0), (Value.ref 448), (Value.bool Bool.true), (Value.int 181 0), (Value.ref 449), Value.none, (Value.ref 450), (Value.ref 451), (Value.ref 452), (Value.int 782 0), (Value.int 249 0), (Value.str (Str.ofString "/claim/cut.py") 783)])) (List.toArray []))
 .nil .nil))) (.node (Obj.mk (Value.type "code") none (Data.fields (List.toArray [(Value.str (Str.ofString "functor") 296), (Value.str (Str.ofString "Symbols.functor") 297), (Value.str (Str.ofString "/claim/cut.py") 298), (Value.int 41 0), (Value.int 3 0), (Value.int 0 0), (Value.int 0 0), (Value.int 3 0), (Value.ref 96), (Value.bool Bool.true), (Value.int 181 0), (Value.ref 97), Value.none, (Value.ref 98), (Value.ref 99), (Value.ref 100), (Value.int 305 0), (Value.int 41 0), (Value.str (Str.ofString "/claim/cut.py") 306)])) (List.toArray []))
 (.node (Obj.mk (Value.type "function") none (Data.func (FuncData.mk (Str.ofString "system_error") (Str.ofString "system_error") kA165.1 (FuncBody.stmts kB165.1) kS165.1 3 [] Value.none Value.none Value.none (Value.str (Str.ofString "clausemill.terms") 376) none (Value.ref 164) Value.none 0)) (List.toArray []))
 (.node (Obj.mk (Value.type "function") none (Data.func (FuncData.mk (Str.ofString "functor_of") (Str.ofString "Cells.functor_of") kA293.1 (FuncBody.stmts kB293.1) kS293.1 3 [] Value.none Value.none Value.none (Value.str (Str.ofString "clausemill.store") 404) none (Value.ref 292) Value.none 0)) (List.toArray []))
 (.node (Obj.mk (Value.type "tuple") none (Data.seq (List.toArray []) 0) (List.toArray []))
 .nil .nil) .nil) (.node (Obj.mk Value.none none (Data.fields (List.toArray [])) (List.toArray []))
 .nil .nil)) (.node (Obj.mk (Value.type "code") none (Data.fields (List.toArray [(Value.str (Str.ofString "deref") 471), (Value.str (Str.ofString "Cells.deref") 472), (Value.str (Str.ofString "/claim/cut.py") 473), (Value.int 116 0), (Value.int 2 0), (Value.int 0 0), (Value.int 0 0), (Value.int 3 0), (Value.ref 224), (Value.bool Bool.true), (Value.int 181 0), (Value.ref 225), Value.none, (Value.ref 226), (Value.ref 227), (Value.ref 228), (Value.int 476 0), (Value.int 116 0), (Value.str (Str.ofString "/claim/cut.py") 477)])) (List.toArray []))
 (.node (Obj.mk (Value.type "function") none (Data.func (FuncData.mk (Str.ofString "list_cells") (Str.ofString "Store.list_cells") kA357.1 (FuncBody.stmts kB357.1) kS357.1 3 [] Value.none Value.none Value.none (Value.str (Str.ofString "clausemill.store") 404) none (Value.ref 356) Value.none 0)) (List.toArray []))
 .nil .nil) (.node (Obj.mk (Value.type "tuple") none (Data.seq (List.toArray [(Value.str (Str.ofString "self") 827), (Value.str (Str.ofString "address") 828), (Value.str (Str.ofString "stack") 829)]) 0) (List.toArray []))
 .nil .nil)))) (.node (Obj.mk (Value.type "builtin_function_or_method") none (Data.fields (List.toArray [(Value.builtin "object.__init_subclass__"), (Value.ref 51)])) (List.toArray []))
 (.node (Obj.mk (Value.type "tuple") none (Data.seq (List.toArray []) 0) (List.toArray []))
 (.node (Obj.mk Value.none none (Data.func (FuncData.mk (Str.ofString "known") (Str.ofString "Symbols.known") kA151.1 (FuncBody.stmts kB151.1) kS151.1 0 [] Value.none Value.none Value.none Value.none none Value.none Value.none 0)) (List.toArray []))
 (.node (Obj.mk Value.none none (Data.func (FuncData.mk (Str.ofString "stack_put") (Str.ofString "Cells.stack_put") kA279.1 (FuncBody.stmts kB279.1) kS279.1 0 [] Value.none Value.none Value.none Value.none none Value.none Value.none 0)) (List.toArray []))
 (.node (Obj.mk (Value.type "dict") none (Data.dict (List.toArray [(DictEntry.mk (PyData.keyHash P (Str.ofString "__module__")) (Value.str (Str.ofString "__module__") 691) (Value.str (Str.ofString "clausemill.areas") 664)), (DictEntry.mk (PyData.keyHash P (Str.ofString "__firstlineno__")) (Value.str (Str.ofString "__firstlineno__") 695) (Value.int 197 694)), (DictEntry.mk (PyData.keyHash P (Str.ofString "__init__")) (Value.str (Str.ofString "__init__") 709) (Value.ref 391)), (DictEntry.mk (PyData.keyHash P (Str.ofString "reset")) (Value.str (Str.ofString "reset") 716) (Value.ref 398)), (DictEntry.mk (PyData.keyHash P (Str.ofString "set_x")) (Value.str (Str.ofString "set_x") 725) (Value.ref 405)), (DictEntry.mk (PyData.keyHash P (Str.ofString "set_arguments")) (Value.str (Str.ofString "set_arguments") 733) (Value.ref 412)), (DictEntry.mk (PyData.keyHash P (Str.ofString "arg")) (Value.str (Str.ofString "arg") 741) (Value.ref 419)), (DictEntry.mk (PyData.keyHash P (Str.ofString "unify")) (Value.str (Str.ofString "unify") 750) (Value.ref 426)), (DictEntry.mk (PyData.keyHash P (Str.ofString "take")) (Value.str (Str.ofString "take") 758) (Value.ref 433)), (DictEntry.mk (PyData.keyHash P (Str.ofString "put")) (Value.str (Str.ofString "put") 766) (Value.ref 440)), (DictEntry.mk (PyData.keyHash P (Str.ofString "top")) (Value.str (Str.ofString "top") 773) (Value.ref 447)), (DictEntry.mk (PyData.keyHash P (Str.ofString "push_environment")) (Value.str (Str.ofString "push_environment") 784) (Value.ref 454)), (DictEntry.mk (PyData.keyHash P (Str.ofString "pop_environment")) (Value.str (Str.ofString "pop_environment") 792) (Value.ref 461)), (DictEntry.mk (PyData.keyHash P (Str.ofString "in_chain")) (Value.str (Str.ofString "in_chain") 800) (Value.ref 468)), (DictEntry.mk (PyData.keyHash P (Str.ofString "set_choice")) (Value.str (Str.ofString "set_choice") 809) (Value.ref 475)), (DictEntry.mk (PyData.keyHash P (Str.ofString "push_choice")) (Value.str (Str.ofString "push_choice") 823) (Value.ref 482)), (DictEntry.mk (PyData.keyHash P (Str.ofString "set_alternative")) (Value.str (Str.ofString "set_alternative") 832) (Value.ref 489)), (DictEntry.mk (PyData.keyHash P (Str.ofString "choice_part")) (Value.str (Str.ofString "choice_part") 841) (Value.ref 496)), (DictEntry.mk (PyData.keyHash P (Str.ofString "restore_choice")) (Value.str (Str.ofString "restore_choice") 851) (Value.ref 503)), (DictEntry.mk (PyData.keyHash P (Str.ofString "pop_choice")) (Value.str (Str.ofString "pop_choice") 858) (Value.ref 510)), (DictEntry.mk (PyData.keyHash P (Str.ofString "cut_back")) (Value.str (Str.ofString "cut_back") 866) (Value.ref 517)), (DictEntry.mk (PyData.keyHash P (Str.ofString "choices")) (Value.str (Str.ofString "choices") 876) (Value.ref 524)), (DictEntry.mk (PyData.keyHash P (Str.ofString "environments")) (Value.str (Str.ofString "environments") 885) (Value.ref 531)), (DictEntry.mk (PyData.keyHash P (Str.ofString "__static_attributes__")) (Value.str (Str.ofString "__static_attributes__") 904) (Value.ref 532)), (DictEntry.mk (PyData.keyHash P (Str.ofString "__dict__")) (Value.str (Str.ofString "__dict__") 906) (Value.ref 535)), (DictEntry.mk (PyData.keyHash P (Str.ofString "__weakref__")) (Value.str (Str.ofString "__weakref__") 908) (Value.ref 536)), (DictEntry.mk (PyData.keyHash P (Str.ofString "__doc__")) (Value.str (Str.ofString "__doc__") 909) Value.none)]) 4) (List.toArray []))
 .nil .nil) .nil) (.node (Obj.mk (Value.type "function") none (Data.func (FuncData.mk (Str.ofString "set_x") (Str.ofString "Areas.set_x") kA405.1 (FuncBody.stmts kB405.1) kS405.1 3 [] Value.none Value.none Value.none (Value.str (Str.ofString "clausemill.areas") 664) none (Value.ref 404) Value.none 0)) (List.toArray []))
 .nil .nil)) (.node (Obj.mk (Value.type "tuple") none (Data.seq (List.toArray []) 0) (List.toArray []))
 (.node (Obj.mk (Value.type "code") none (Data.fields (List.toArray [(Value.str (Str.ofString "new_struct") 616), (Value.str (Str.ofString "Store.new_struct") 617), (Value.str (Str.ofString "/claim/cut.py") 618), (Value.int 173 0), (Value.int 3 0), (Value.int 0 0), (Value.int 0 0), (Value.int 3 0), (Value.ref 336), (Value.bool Bool.true), (Value.int 181 0), (Value.ref 337), Value.none, (Value.ref 338), (Value.ref 339), (Value.ref 340), (Value.int 622 0), (Value.int 173 0), (Value.str (Str.ofString "/claim/cut.py") 623)])) (List.toArray []))
 .nil .nil) (.node (Obj.mk (Value.type "tuple") none (Data.seq (List.toArray []) 0) (List.toArray []))
 .nil .nil))) (.node (Obj.mk (Value.type "tuple") none (Data.seq (List.toArray []) 0) (List.toArray []))
 (.node (Obj.mk (Value.type "tuple") none (Data.seq (List.toArray []) 0) (List.toArray []))
 (.node (Obj.mk Value.none none (Data.fields (List.toArray [])) (List.toArray []))
 (.node (Obj.mk (Value.type "tuple") none (Data.seq (List.toArray [(Value.str (Str.ofString "script") 948), (Value.str (Str.ofString "strip") 949), (Value.str (Str.ofString "rows_of") 950), (Value.str (Str.ofString "m") 951), (Value.str (Str.ofString "chain") 952), (Value.str (Str.ofString "points") 953), (Value.str (Str.ofString "mark_no") 954), (Value.str (Str.ofString "lap") 955), (Value.str (Str.ofString "deed") 956), (Value.str (Str.ofString "size_of") 957), (Value.str (Str.ofString "fills") 958), (Value.str (Str.ofString "at") 959), (Value.str (Str.ofString "given_cells") 960), (Value.str (Str.ofString "point") 961), (Value.str (Str.ofString "kept_many") 962)]) 0) (List.toArray []))
 .nil .nil) .nil) (.node (Obj.mk (Value.type "tuple") none (Data.seq (List.toArray []) 0) (List.toArray []))
 .nil .nil)) (.node (Obj.mk (Value.type "tuple") none (Data.seq (List.toArray []) 0) (List.toArray []))
 (.node (Obj.mk (Value.type "dict") none (Data.dict (List.toArray [(DictEntry.mk (PyData.keyHash P (Str.ofString "__module__")) (Value.str (Str.ofString "__module__") 611) (Value.str (Str.ofString "clausemill.store") 404)), (DictEntry.mk (PyData.keyHash P (Str.ofString "__firstlineno__")) (Value.str (Str.ofString "__firstlineno__") 615) (Value.int 171 614)), (DictEntry.mk (PyData.keyHash P (Str.ofString "new_struct")) (Value.str (Str.ofString "new_struct") 624) (Value.ref 342)), (DictEntry.mk (PyData.keyHash P (Str.ofString "build_list")) (Value.str (Str.ofString "build_list") 633) (Value.ref 350)), (DictEntry.mk (PyData.keyHash P (Str.ofString "list_cells")) (Value.str (Str.ofString "list_cells") 641) (Value.ref 357)), (DictEntry.mk (PyData.keyHash P (Str.ofString "put_term")) (Value.str (Str.ofString "put_term") 650) (Value.ref 364)), (DictEntry.mk (PyData.keyHash P (Str.ofString "take_term")) (Value.str (Str.ofString "take_term") 659) (Value.ref 371)), (DictEntry.mk (PyData.keyHash P (Str.ofString "__static_attributes__")) (Value.str (Str.ofString "__static_attributes__") 660) (Value.ref 372)), (DictEntry.mk (PyData.keyHash P (Str.ofString "__doc__")) (Value.str (Str.ofString "__doc__") 661) Value.none)]) 2) (List.toArray []))
 .nil .nil) (.node (Obj.mk Value.none none (Data.func (FuncData.mk (Str.ofString "restore_choice") (Str.ofString "Areas.restore_choice") kA503.1 (FuncBody.stmts kB503.1) kS503.1 0 [] Value.none Value.none Value.none Value.none none Value.none Value.none 0)) (List.toArray []))
 .nil .nil))))) (.node (Obj.mk (Value.type "tuple") none (Data.seq (List.toArray []) 0) (List.toArray []))
 (.node (Obj.mk (Value.type "tuple") none (Data.seq (List.toArray []) 0) (List.toArray []))
 (.node (Obj.mk (Value.type "tuple") none (Data.seq (List.toArray [(Value.str (Str.ofString "self") 272), (Value.str (Str.ofString "text") 273), (Value.str (Str.ofString "row") 274)]) 0) (List.toArray []))
 (.node (Obj.mk (Value.type "tuple") none (Data.seq (List.toArray []) 0) (List.toArray []))
 (.node (Obj.mk (Value.type "tuple") none (Data.seq (List.toArray []) 0) (List.toArray []))
 (.node (Obj.mk (Value.type "tuple") none (Data.seq (List.toArray []) 0) (List.toArray []))
 .nil .nil) .nil) (.node (Obj.mk (Value.type "code") none (Data.fields (List.toArray [(Value.str (Str.ofString "reset") 710), (Value.str (Str.ofString "Areas.reset") 711), (Value.str (Str.ofString "/claim/cut.py") 712), (Value.int 207 0), (Value.int 1 0), (Value.int 0 0), (Value.int 0 0), (Value.int 3 0), (Value.ref 392), (Value.bool Bool.true), (Value.int 181 0), (Value.ref 393), Value.none, (Value.ref 394), (Value.ref 395), (Value.ref 396), (Value.int 714 0), (Value.int 207 0), (Value.str (Str.ofString "/claim/cut.py") 715)])) (List.toArray []))
 .nil .nil)) (.node (Obj.mk (Value.type "tuple") none (Data.seq (List.toArray [(Value.str (Str.ofString "self") 450), (Value.str (Str.ofString "cell") 451)]) 0) (List.toArray []))
 (.node (Obj.mk Value.none none (Data.fields (List.toArray [(Value.int 173 0), (Value.int 4 0), (Value.ref 341), (Value.int 176 0), (Value.int 4 0), (Value.ref 349), (Value.int 179 0), (Value.int 4 0), (Value.ref 356), (Value.int 182 0), (Value.int 4 0), (Value.ref 363), (Value.int 185 0), (Value.int 4 0), (Value.ref 370)])) (List.toArray []))
 .nil .nil) (.node (Obj.mk (Value.type "function") none (Data.func (FuncData.mk (Str.ofString "pop_environment") (Str.ofString "Areas.pop_environment") kA461.1 (FuncBody.stmts kB461.1) kS461.1 3 [] Value.none Value.none Value.none (Value.str (Str.ofString "clausemill.areas") 664) none (Value.ref 460) Value.none 0)) (List.toArray []))
 .nil .nil))) (.node (Obj.mk (Value.type "function") none (Data.func (FuncData.mk (Str.ofString "func") (Str.ofString "Symbols.func") kA109.1 (FuncBody.stmts kB109.1) kS109.1 3 [] Value.none Value.none Value.none (Value.str (Str.ofString "clausemill.symbols") 194) none (Value.ref 108) Value.none 0)) (List.toArray []))
 (.node (Obj.mk (Value.type "tuple") none (Data.seq (List.toArray []) 0) (List.toArray []))
 (.node (Obj.mk (Value.type "tuple") none (Data.seq (List.toArray []) 0) (List.toArray []))
 (.node (Obj.mk (Value.type "function") none (Data.func (FuncData.mk (Str.ofString "_law_row_stands") (Str.ofString "_law_row_stands") kA557.1 (FuncBody.stmts kB557.1) kS557.1 3 [] Value.none Value.none Value.none (Value.str (Str.ofString "law_ok0027_01") 912) none (Value.ref 556) Value.none 0)) (List.toArray []))
 .nil .nil) .nil) (.node (Obj.mk (Value.type "tuple") none (Data.seq (List.toArray [(Value.str (Str.ofString "self") 754), (Value.str (Str.ofString "cell") 755)]) 0) (List.toArray []))
 .nil .nil)) (.node (Obj.mk (Value.type "function") none (Data.func (FuncData.mk (Str.ofString "is_unbound") (Str.ofString "Cells.is_unbound") kA237.1 (FuncBody.stmts kB237.1) kS237.1 3 [] Value.none Value.none Value.none (Value.str (Str.ofString "clausemill.store") 404) none (Value.ref 236) Value.none 0)) (List.toArray []))
 (.node (Obj.mk (Value.type "tuple") none (Data.seq (List.toArray []) 0) (List.toArray []))
 .nil .nil) (.node (Obj.mk (Value.type "tuple") none (Data.seq (List.toArray []) 0) (List.toArray []))
 .nil .nil)))) (.node (Obj.mk (Value.type "tuple") none (Data.seq (List.toArray []) 0) (List.toArray []))
 (.node (Obj.mk Value.none none (Data.func (FuncData.mk (Str.ofString "text") (Str.ofString "Symbols.text") kA95.1 (FuncBody.stmts kB95.1) kS95.1 0 [] Value.none Value.none Value.none Value.none none Value.none Value.none 0)) (List.toArray []))
 (.node (Obj.mk (Value.type "super") none (Data.fields (List.toArray [(Value.ref 154), (Value.ref 154), (Value.ref 154)])) (List.toArray []))
 (.node (Obj.mk (Value.type "code") none (Data.fields (List.toArray [(Value.str (Str.ofString "is_compound") 540), (Value.str (Str.ofString "Cells.is_compound") 541), (Value.str (Str.ofString "/claim/cut.py") 542), (Value.int 152 0), (Value.int 2 0), (Value.int 0 0), (Value.int 0 0), (Value.int 3 0), (Value.ref 280), (Value.bool Bool.true), (Value.int 181 0), (Value.ref 281), Value.none, (Value.ref 282), (Value.ref 283), (Value.ref 284), (Value.int 545 0), (Value.int 152 0), (Value.str (Str.ofString "/claim/cut.py") 546)])) (List.toArray []))
 (.node (Obj.mk (Value.type "tuple") none (Data.seq (List.toArray [(Value.str (Str.ofString "script") 917), (Value.str (Str.ofString "strip") 918), (Value.str (Str.ofString "cell") 919), (Value.str (Str.ofString "left_of") 920), (Value.str (Str.ofString "lap") 921)]) 0) (List.toArray []))
 .nil .nil) .nil) (.node (Obj.mk (Value.type "tuple") none (Data.seq (List.toArray []) 0) (List.toArray []))
 .nil .nil)) (.node (Obj.mk Value.none none (Data.func (FuncData.mk (Str.ofString "trim") (Str.ofString "Cells.trim") kA223.1 (FuncBody.stmts kB223.1) kS223.1 0 [] Value.none Value.none Value.none Value.none none Value.none Value.none 0)) (List.toArray []))
 (.node (Obj.mk (Value.type "code") none (Data.fields (List.toArray [(Value.str (Str.ofString "build_list") 625), (Value.str (Str.ofString "Store.build_list") 626), (Value.str (Str.ofString "/claim/cut.py") 627), (Value.int 176 0), (Value.int 3 0), (Value.int 0 0), (Value.int 0 0), (Value.int 3 0), (Value.ref 344), (Value.bool Bool.true), (Value.int 181 0), (Value.ref 345), Value.none, (Value.ref 346), (Value.ref 347), (Value.ref 348), (Value.int 631 0), (Value.int 176 0), (Value.str (Str.ofString "/claim/cut.py") 632)])) (List.toArray []))
 .nil .nil) (.node (Obj.mk Value.none none (Data.fields (List.toArray [])) (List.toArray []))
 .nil .nil))) (.node (Obj.mk Value.none none (Data.fields (List.toArray [])) (List.toArray []))
 (.node (Obj.mk (Value.type "tuple") none (Data.seq (List.toArray []) 0) (List.toArray []))
 (.node (Obj.mk (Value.type "tuple") none (Data.seq (List.toArray [(Value.str (Str.ofString "self") 584), (Value.str (Str.ofString "f") 585)]) 0) (List.toArray []))
 .nil .nil) (.node (Obj.mk Value.none none (Data.func (FuncData.mk (Str.ofString "top") (Str.ofString "Areas.top") kA447.1 (FuncBody.stmts kB447.1) kS447.1 0 [] Value.none Value.none Value.none Value.none none Value.none Value.none 0)) (List.toArray []))
 .nil .nil)) (.node (Obj.mk Value.none none (Data.fields (List.toArray [])) (List.toArray []))
 (.node (Obj.mk Value.none none (Data.fields (List.toArray [(Value.int 199 0), (Value.int 4 0), (Value.ref 390), (Value.int 207 0), (Value.int 4 0), (Value.ref 397), (Value.int 222 0), (Value.int 4 0), (Value.ref 404), (Value.int 227 0), (Value.int 4 0), (Value.ref 411), (Value.int 230 0), (Value.int 4 0), (Value.ref 418), (Value.int 233 0), (Value.int 4 0), (Value.ref 425), (Value.int 236 0), (Value.int 4 0), (Value.ref 432), (Value.int 239 0), (Value.int 4 0), (Value.ref 439), (Value.int 242 0), (Value.int 4 0), (Value.ref 446), (Value.int 249 0), (Value.int 4 0), (Value.ref 453), (Value.int 258 0), (Value.int 4 0), (Value.ref 460), (Value.int 263 0), (Value.int 4 0), (Value.ref 467), (Value.int 266 0), (Value.int 4 0), (Value.ref 474), (Value.int 276 0), (Value.int 4 0), (Value.ref 481), (Value.int 294 0), (Value.int 4 0), (Value.ref 488), (Value.int 298 0), (Value.int 4 0), (Value.ref 495), (Value.int 302 0), (Value.int 4 0), (Value.ref 502), (Value.int 312 0), (Value.int 4 0), (Value.ref 509), (Value.int 315 0), (Value.int 4 0), (Value.ref 516), (Value.int 319 0), (Value.int 4 0), (Value.ref 523), (Value.int 328 0), (Value.int 4 0), (Value.ref 530)])) (List.toArray []))
 .nil .nil) (.node (Obj.mk (Value.type "code") none (Data.fields (List.toArray [(Value.str (Str.ofString "pop_choice") 852), (Value.str (Str.ofString "Areas.pop_choice") 853), (Value.str (Str.ofString "/claim/cut.py") 854), (Value.int 312 0), (Value.int 1 0), (Value.int 0 0), (Value.int 0 0), (Value.int 3 0), (Value.ref 504), (Value.bool Bool.true), (Value.int 181 0), (Value.ref 505), Value.none, (Value.ref 506), (Value.ref 507), (Value.ref 508), (Value.int 856 0), (Value.int 312 0), (Value.str (Str.ofString "/claim/cut.py") 857)])) (List.toArray []))
 .nil .nil)))))))) (.node (Obj.mk Value.none none (Data.dict (List.toArray [(DictEntry.mk (PyData.keyHash P (Str.ofString "type.__subclasses__.Exception.0")) (Value.str (Str.ofString "type.__subclasses__.Exception.0") 212) (Value.int 31 0)), (DictEntry.mk (PyData.keyHash P (Str.ofString "type.__subclasses__.Exception.n")) (Value.str (Str.ofString "type.__subclasses__.Exception.n") 213) (Value.int 1 0))]) 2) (List.toArray []))
 (.node (W.boot_o_4 P)
 (.node (W.boot_o_8 P)
 (.node (Obj.mk Value.none none (Data.fields (List.toArray [])) (List.toArray []))
 (.node (Obj.mk (Value.type "getset_descriptor") none (Data.fields (List.toArray [(Value.str (Str.ofString "__weakref__") 209), (Value.ref 31), (Value.builtin "ExceptionGroup.__weakref__"), Value.none])) (List.toArray []))
 (.node (Obj.mk (Value.type "tuple") none (Data.seq (List.toArray []) 0) (List.toArray []))
 (.node (Obj.mk Value.none none (Data.func (FuncData.mk (Str.ofString "label") (Str.ofString "Symbols.label") kA130.1 (FuncBody.stmts kB130.1) kS130.1 0 [] Value.none Value.none Value.none Value.none none Value.none Value.none 0)) (List.toArray []))
 (.node (Obj.mk Value.none none (Data.func (FuncData.mk (Str.ofString "globalise") (Str.ofString "Cells.globalise") kA258.1 (FuncBody.stmts kB258.1) kS258.1 0 [] Value.none Value.none Value.none Value.none none Value.none Value.none 0)) (List.toArray []))
 (.node (Obj.mk Value.none none (Data.fields (List.toArray [])) (List.toArray []))
 .nil .nil) .nil) (.node (Obj.mk (Value.type "tuple") none (Data.seq (List.toArray [(Value.int 100000 696), (Value.bool Bool.true), (Value.int 4096 697)]) 0) (List.toArray []))
 .nil .nil)) (.node (Obj.mk (Value.type "tuple") none (Data.seq (List.toArray []) 0) (List.toArray []))
 (.node (Obj.mk (Value.type "code") none (Data.fields (List.toArray [(Value.str (Str.ofString "new_block") 581), (Value.str (Str.ofString "Cells.new_block") 582), (Value.str (Str.ofString "/claim/cut.py") 583), (Value.int 169 0), (Value.int 2 0), (Value.int 0 0), (Value.int 0 0), (Value.int 3 0), (Value.ref 315), (Value.bool Bool.true), (Value.int 181 0), (Value.ref 316), Value.none, (Value.ref 317), (Value.ref 318), (Value.ref 319), (Value.int 586 0), (Value.int 169 0), (Value.str (Str.ofString "/claim/cut.py") 587)])) (List.toArray []))
 .nil .nil) (.node (Obj.mk (Value.type "tuple") none (Data.seq (List.toArray []) 0) (List.toArray []))
 .nil .nil))) (.node (Obj.mk (Value.type "tuple") none (Data.seq (List.toArray []) 0) (List.toArray []))
 (.node (Obj.mk Value.none none (Data.fields (List.toArray [])) (List.toArray []))
 (.node (Obj.mk Value.none none (Data.fields (List.toArray [])) (List.toArray []))
 (.node (Obj.mk (Value.type "code") none (Data.fields (List.toArray [(Value.str (Str.ofString "_law_digits") 914), (Value.str (Str.ofString "_law_digits") 915), (Value.str (Str.ofString "/claim/cut.py") 916), (Value.int 336 0), (Value.int 1 0), (Value.int 0 0), (Value.int 0 0), (Value.int 3 0), (Value.ref 539), (Value.bool Bool.true), (Value.int 181 0), (Value.ref 540), Value.none, (Value.ref 541), (Value.ref 542), (Value.ref 543), (Value.int 922 0), (Value.int 336 0), (Value.str (Str.ofString "/claim/cut.py") 923)])) (List.toArray []))
 .nil .nil) .nil) (.node (Obj.mk (Value.type "tuple") none (Data.seq (List.toArray []) 0) (List.toArray []))
 .nil .nil)) (.node (Obj.mk (Value.type "tuple") none (Data.seq (List.toArray []) 0) (List.toArray []))
 (.node (Obj.mk Value.none none (Data.fields (List.toArray [])) (List.toArray []))
 .nil .nil) (.node (Obj.mk Value.none none (Data.func (FuncData.mk (Str.ofString "push_choice") (Str.ofString "Areas.push_choice") kA482.1 (FuncBody.stmts kB482.1) kS482.1 0 [] Value.none Value.none Value.none Value.none none Value.none Value.none 0)) (List.toArray []))
 .nil .nil)))) (.node (Obj.mk (Value.type "function") none (Data.func (FuncData.mk (Str.ofString "__init__") (Str.ofString "PrologError.__init__") kA48.1 (FuncBody.stmts kB48.1) kS48.1 3 [] Value.none Value.none Value.none (Value.str (Str.ofString "clausemill.symbols") 194) none (Value.ref 47) Value.none 0)) (List.toArray []))
 (.node (Obj.mk (Value.type "code") none (Data.fields (List.toArray [(Value.str (Str.ofString "__init__") 269), (Value.str (Str.ofString "Symbols.__init__") 270), (Value.str (Str.ofString "/claim/cut.py") 271), (Value.int 19 0), (Value.int 1 0), (Value.int 0 0), (Value.int 0 0), (Value.int 3 0), (Value.ref 75), (Value.bool Bool.true), (Value.int 181 0), (Value.ref 76), Value.none, (Value.ref 77), (Value.ref 78), (Value.ref 79), (Value.int 275 0), (Value.int 19 0), (Value.str (Str.ofString "/claim/cut.py") 276)])) (List.toArray []))
 (.node (Obj.mk (Value.type "function") none (Data.func (FuncData.mk (Str.ofString "functor_count") (Str.ofString "Symbols.functor_count") kA144.1 (FuncBody.stmts kB144.1) kS144.1 3 [] Value.none Value.none Value.none (Value.str (Str.ofString "clausemill.symbols") 194) none (Value.ref 143) Value.none 0)) (List.toArray []))
 (.node (Obj.mk (Value.type "function") none (Data.func (FuncData.mk (Str.ofString "undo_to") (Str.ofString "Cells.undo_to") kA272.1 (FuncBody.stmts kB272.1) kS272.1 3 [] Value.none Value.none Value.none (Value.str (Str.ofString "clausemill.store") 404) none (Value.ref 271) Value.none 0)) (List.toArray []))
 (.node (Obj.mk (Value.type "tuple") none (Data.seq (List.toArray []) 0) (List.toArray []))
 .nil .nil) .nil) (.node (Obj.mk Value.none none (Data.fields (List.toArray [])) (List.toArray []))
 .nil .nil)) (.node (Obj.mk (Value.type "code") none (Data.fields (List.toArray [(Value.str (Str.ofString "new_var") 447), (Value.str (Str.ofString "Cells.new_var") 448), (Value.str (Str.ofString "/claim/cut.py") 449), (Value.int 105 0), (Value.int 1 0), (Value.int 0 0), (Value.int 0 0), (Value.int 3 0), (Value.ref 203), (Value.bool Bool.true), (Value.int 181 0), (Value.ref 204), Value.none, (Value.ref 205), (Value.ref 206), (Value.ref 207), (Value.int 452 0), (Value.int 105 0), (Value.str (Str.ofString "/claim/cut.py") 453)])) (List.toArray []))
 (.node (Obj.mk (Value.type "tuple") none (Data.seq (List.toArray []) 0) (List.toArray []))
 .nil .nil) (.node (Obj.mk (Value.type "tuple") none (Data.seq (List.toArray [(Value.str (Str.ofString "self") 796), (Value.str (Str.ofString "index") 797)]) 0) (List.toArray []))
 .nil .nil))) (.node (Obj.mk (Value.type "tuple") none (Data.seq (List.toArray [(Value.str (Str.ofString "self") 320), (Value.str (Str.ofString "functor") 321)]) 0) (List.toArray []))
 (.node (Obj.mk (Value.type "tuple") none (Data.seq (List.toArray []) 0) (List.toArray []))
 (.node (Obj.mk (Value.type "tuple") none (Data.seq (List.toArray []) 0) (List.toArray []))
 (.node (Obj.mk Value.none none (Data.func (FuncData.mk (Str.ofString "_law_stands") (Str.ofString "_law_stands") kA562.1 (FuncBody.stmts kB562.1) kS562.1 0 [] Value.none Value.none Value.none Value.none none Value.none Value.none 0)) (List.toArray []))
 .nil .nil) .nil) (.node (Obj.mk (Value.type "code") none (Data.fields (List.toArray [(Value.str (Str.ofString "take") 751), (Value.str (Str.ofString "Areas.take") 752), (Value.str (Str.ofString "/claim/cut.py") 753), (Value.int 236 0), (Value.int 2 0), (Value.int 0 0), (Value.int 0 0), (Value.int 3 0), (Value.ref 427), (Value.bool Bool.true), (Value.int 181 0), (Value.ref 428), Value.none, (Value.ref 429), (Value.ref 430), (Value.ref 431), (Value.int 756 0), (Value.int 236 0), (Value.str (Str.ofString "/claim/cut.py") 757)])) (List.toArray []))
 .nil .nil)) (.node (Obj.mk (Value.type "tuple") none (Data.seq (List.toArray [(Value.str (Str.ofString "self") 490), (Value.str (Str.ofString "cell") 491), (Value.str (Str.ofString "value") 492)]) 0) (List.toArray []))
 (.node (Obj.mk (Value.type "tuple") none (Data.seq (List.toArray []) 0) (List.toArray []))
 .nil .nil) (.node (Obj.mk (Value.type "function") none (Data.func (FuncData.mk (Str.ofString "choice_part") (Str.ofString "Areas.choice_part") kA496.1 (FuncBody.stmts kB496.1) kS496.1 3 [] Value.none Value.none Value.none (Value.str (Str.ofString "clausemill.areas") 664) none (Value.ref 495) Value.none 0)) (List.toArray []))
 .nil .nil))))) (.node (Obj.mk (Value.type "dict") none (Data.dict (List.toArray [(DictEntry.mk (PyData.keyHash P (Str.ofString "__module__")) (Value.str (Str.ofString "__module__") 203) (Value.str (Str.ofString "clausemill.symbols") 194)), (DictEntry.mk (PyData.keyHash P (Str.ofString "__qualname__")) (Value.str (Str.ofString "__qualname__") 205) (Value.str (Str.ofString "ClausemillError") 204)), (DictEntry.mk (PyData.keyHash P (Str.ofString "__firstlineno__")) (Value.str (Str.ofString "__firstlineno__") 207) (Value.int 5 206)), (DictEntry.mk (PyData.keyHash P (Str.ofString "__static_attributes__")) (Value.str (Str.ofString "__static_attributes__") 208) (Value.ref 29))]) 4) (List.toArray []))
 (.node (Obj.mk (Value.type "code") none (Data.fields (List.toArray [(Value.str (Str.ofString "PrologError") 218), (Value.str (Str.ofString "PrologError") 219), (Value.str (Str.ofString "/claim/cut.py") 220), (Value.int 7 0), (Value.int 0 0), (Value.int 0 0), (Value.int 0 0), (Value.int 0 0), (Value.ref 38), (Value.bool Bool.false), (Value.int 181 0), (Value.ref 39), Value.none, Value.none, Value.none, Value.none, (Value.int 221 0), (Value.int 7 0), (Value.str (Str.ofString "/claim/cut.py") 222)])) (List.toArray []))
 (.node (Obj.mk Value.none none (Data.fields (List.toArray [(Value.int 19 0), (Value.int 4 0), (Value.ref 80), (Value.int 29 0), (Value.int 4 0), (Value.ref 87), (Value.int 38 0), (Value.int 4 0), (Value.ref 94), (Value.int 41 0), (Value.int 4 0), (Value.ref 101), (Value.int 51 0), (Value.int 4 0), (Value.ref 108), (Value.int 54 0), (Value.int 4 0), (Value.ref 115), (Value.int 57 0), (Value.int 4 0), (Value.ref 122), (Value.int 60 0), (Value.int 4 0), (Value.ref 129), (Value.int 63 0), (Value.int 4 0), (Value.ref 136), (Value.int 66 0), (Value.int 4 0), (Value.ref 143), (Value.int 69 0), (Value.int 4 0), (Value.ref 150)])) (List.toArray []))
 (.node (Obj.mk (Value.type "code") none (Data.fields (List.toArray [(Value.str (Str.ofString "count") 341), (Value.str (Str.ofString "Symbols.count") 342), (Value.str (Str.ofString "/claim/cut.py") 343), (Value.int 63 0), (Value.int 1 0), (Value.int 0 0), (Value.int 0 0), (Value.int 3 0), (Value.ref 131), (Value.bool Bool.true), (Value.int 181 0), (Value.ref 132), Value.none, (Value.ref 133), (Value.ref 134), (Value.ref 135), (Value.int 345 0), (Value.int 63 0), (Value.str (Str.ofString "/claim/cut.py") 346)])) (List.toArray []))
 (.node (Obj.mk (Value.type "code") none (Data.fields (List.toArray [(Value.str (Str.ofString "mark") 513), (Value.str (Str.ofString "Cells.mark") 514), (Value.str (Str.ofString "/claim/cut.py") 515), (Value.int 131 0), (Value.int 1 0), (Value.int 0 0), (Value.int 0 0), (Value.int 3 0), (Value.ref 259), (Value.bool Bool.true), (Value.int 181 0), (Value.ref 260), Value.none, (Value.ref 261), (Value.ref 262), (Value.ref 263), (Value.int 517 0), (Value.int 131 0), (Value.str (Str.ofString "/claim/cut.py") 518)])) (List.toArray []))
 (.node (Obj.mk (Value.type "tuple") none (Data.seq (List.toArray [(Value.str (Str.ofString "self") 870), (Value.str (Str.ofString "stack") 871), (Value.str (Str.ofString "found") 872), (Value.str (Str.ofString "b") 873)]) 0) (List.toArray []))
 .nil .nil) .nil) (.node (Obj.mk (Value.type "tuple") none (Data.seq (List.toArray []) 0) (List.toArray []))
 .nil .nil)) (.node (Obj.mk Value.none none (Data.func (FuncData.mk (Str.ofString "push") (Str.ofString "Cells.push") kA202.1 (FuncBody.stmts kB202.1) kS202.1 0 [] Value.none Value.none Value.none Value.none none Value.none Value.none 0)) (List.toArray []))
 (.node (Obj.mk (Value.type "builtin_function_or_method") none (Data.fields (List.toArray [(Value.builtin "object.__init_subclass__"), (Value.ref 324)])) (List.toArray []))
 .nil .nil) (.node (Obj.mk Value.none none (Data.fields (List.toArray [])) (List.toArray []))
 .nil .nil))) (.node (Obj.mk Value.none none (Data.fields (List.toArray [])) (List.toArray []))
 (.node (Obj.mk (Value.type "tuple") none (Data.seq (List.toArray [(Value.str (Str.ofString "symbols") 388), (Value.str (Str.ofString "name") 389), (Value.str (Str.ofString "parts") 390), (Value.str (Str.ofString "args") 391), (Value.str (Str.ofString "part") 392)]) 0) (List.toArray []))
 (.node (Obj.mk (Value.type "tuple") none (Data.seq (List.toArray [(Value.str (Str.ofString "self") 559), (Value.str (Str.ofString "cell") 560)]) 0) (List.toArray []))
 (.node (Obj.mk (Value.type "function") none (Data.func (FuncData.mk (Str.ofString "_law_choose") (Str.ofString "_law_choose") kA552.1 (FuncBody.stmts kB552.1) kS552.1 3 [] Value.none Value.none Value.none (Value.str (Str.ofString "law_ok0027_01") 912) none (Value.ref 551) Value.none 0)) (List.toArray []))
 .nil .nil) .nil) (.node (Obj.mk Value.none none (Data.func (FuncData.mk (Str.ofString "unify") (Str.ofString "Areas.unify") kA426.1 (FuncBody.stmts kB426.1) kS426.1 0 [] Value.none Value.none Value.none Value.none none Value.none Value.none 0)) (List.toArray []))
 .nil .nil)) (.node (Obj.mk Value.none none (Data.fields (List.toArray [])) (List.toArray []))
 (.node (Obj.mk (Value.type "tuple") none (Data.seq (List.toArray [(Value.str (Str.ofString "self") 645), (Value.str (Str.ofString "term") 646), (Value.str (Str.ofString "table") 647)]) 0) (List.toArray []))
 .nil .nil) (.node (Obj.mk (Value.type "code") none (Data.fields (List.toArray [(Value.str (Str.ofString "set_alternative") 824), (Value.str (Str.ofString "Areas.set_alternative") 825), (Value.str (Str.ofString "/claim/cut.py") 826), (Value.int 294 0), (Value.int 2 0), (Value.int 0 0), (Value.int 0 0), (Value.int 3 0), (Value.ref 483), (Value.bool Bool.true), (Value.int 181 0), (Value.ref 484), Value.none, (Value.ref 485), (Value.ref 486), (Value.ref 487), (Value.int 830 0), (Value.int 294 0), (Value.str (Str.ofString "/claim/cut.py") 831)])) (List.toArray []))
 .nil .nil)))) (.node (Obj.mk (Value.type "tuple") none (Data.seq (List.toArray []) 0) (List.toArray []))
 (.node (Obj.mk (Value.type "function") none (Data.func (FuncData.mk (Str.ofString "atom") (Str.ofString "Symbols.atom") kA88.1 (FuncBody.stmts kB88.1) kS88.1 3 [] Value.none Value.none Value.none (Value.str (Str.ofString "clausemill.symbols") 194) none (Value.ref 87) Value.none 0)) (List.toArray []))
 (.node (Obj.mk (Value.type "tuple") none (Data.seq (List.toArray [(Value.str (Str.ofString "atom_numbers") 364), (Value.str (Str.ofString "functor_numbers") 365), (Value.str (Str.ofString "functors") 366), (Value.str (Str.ofString "texts") 367)]) 0) (List.toArray []))
 (.node (Obj.mk (Value.type "tuple") none (Data.seq (List.toArray []) 0) (List.toArray []))
 (.node (Obj.mk (Value.type "getset_descriptor") none (Data.fields (List.toArray [(Value.str (Str.ofString "__weakref__") 907), (Value.ref 534), (Value.builtin "ExceptionGroup.__weakref__"), Value.none])) (List.toArray []))
 .nil .nil) .nil) (.node (Obj.mk (Value.type "tuple") none (Data.seq (List.toArray [(Value.str (Str.ofString "self") 729), (Value.str (Str.ofString "cells") 730)]) 0) (List.toArray []))
 .nil .nil)) (.node (Obj.mk (Value.type "function") none (Data.func (FuncData.mk (Str.ofString "reserve") (Str.ofString "Cells.reserve") kA216.1 (FuncBody.stmts kB216.1) kS216.1 3 [] Value.none Value.none Value.none (Value.str (Str.ofString "clausemill.store") 404) none (Value.ref 215) Value.none 0)) (List.toArray []))
 (.node (Obj.mk (Value.type "tuple") none (Data.seq (List.toArray []) 0) (List.toArray []))
 .nil .nil) (.node (Obj.mk (Value.type "tuple") none (Data.seq (List.toArray []) 0) (List.toArray []))
 .nil .nil))) (.node (Obj.mk (Value.type "tuple") none (Data.seq (List.toArray []) 0) (List.toArray []))
 (.node (Obj.mk (Value.type "tuple") none (Data.seq (List.toArray []) 0) (List.toArray []))
 (.node (Obj.mk Value.none none (Data.func (FuncData.mk (Str.ofString "arg") (Str.ofString "Cells.arg") kA314.1 (FuncBody.stmts kB314.1) kS314.1 0 [] Value.none Value.none Value.none Value.none none Value.none Value.none 0)) (List.toArray []))
 (.node (Obj.mk (Value.type "code") none (Data.fields (List.toArray [(Value.str (Str.ofString "law") 945), (Value.str (Str.ofString "law") 946), (Value.str (Str.ofString "/claim/cut.py") 947), (Value.int 370 0), (Value.int 1 0), (Value.int 0 0), (Value.int 0 0), (Value.int 3 0), (Value.ref 563), (Value.bool Bool.true), (Value.int 181 0), (Value.ref 564), Value.none, (Value.ref 565), (Value.ref 566), (Value.ref 567), (Value.int 963 0), (Value.int 370 0), (Value.str (Str.ofString "/claim/cut.py") 964)])) (List.toArray []))
 .nil .nil) .nil) (.node (Obj.mk (Value.type "function") none (Data.func (FuncData.mk (Str.ofString "put") (Str.ofString "Areas.put") kA440.1 (FuncBody.stmts kB440.1) kS440.1 3 [] Value.none Value.none Value.none (Value.str (Str.ofString "clausemill.areas") 664) none (Value.ref 439) Value.none 0)) (List.toArray []))
 .nil .nil)) (.node (Obj.mk (Value.type "tuple") none (Data.seq (List.toArray []) 0) (List.toArray []))
 (.node (Obj.mk (Value.type "builtin_function_or_method") none (Data.fields (List.toArray [(Value.builtin "object.__init_subclass__"), (Value.ref 374)])) (List.toArray []))
 .nil .nil) (.node (Obj.mk (Value.type "tuple") none (Data.seq (List.toArray []) 0) (List.toArray []))
 .nil .nil)))))) (.node (Obj.mk Value.none none (Data.fields (List.toArray [(Value.int 1 0), (Value.int 0 0), (Value.ref 20), (Value.int 5 0), (Value.int 0 0), (Value.ref 27), (Value.int 7 0), (Value.int 0 0), (Value.ref 40), (Value.int 13 0), (Value.int 0 0), (Value.ref 59), (Value.int 15 0), (Value.int 0 0), (Value.ref 66), (Value.int 17 0), (Value.int 0 0), (Value.ref 73), (Value.int 72 0), (Value.int 0 0), (Value.ref 164), (Value.int 74 0), (Value.int 0 0), (Value.ref 171), (Value.int 79 0), (Value.int 0 0), (Value.ref 178), (Value.int 87 0), (Value.int 0 0), (Value.ref 186), (Value.int 171 0), (Value.int 0 0), (Value.ref 334), (Value.int 197 0), (Value.int 0 0), (Value.ref 382), (Value.int 336 0), (Value.int 0 0), (Value.ref 544), (Value.int 348 0), (Value.int 0 0), (Value.ref 551), (Value.int 352 0), (Value.int 0 0), (Value.ref 556), (Value.int 357 0), (Value.int 0 0), (Value.ref 561), (Value.int 370 0), (Value.int 0 0), (Value.ref 568)])) (List.toArray []))
 (.node (Obj.mk (Value.type "code") none (Data.fields (List.toArray [(Value.str (Str.ofString "_wall") 187), (Value.str (Str.ofString "_wall") 188), (Value.str (Str.ofString "/claim/cut.py") 189), (Value.int 1 0), (Value.int 1 0), (Value.int 0 0), (Value.int 0 0), (Value.int 3 0), (Value.ref 15), (Value.bool Bool.true), (Value.int 181 0), (Value.ref 16), Value.none, (Value.ref 17), (Value.ref 18), (Value.ref 19), (Value.int 191 0), (Value.int 1 0), (Value.str (Str.ofString "/claim/cut.py") 192)])) (List.toArray []))
 (.node (Obj.mk (Value.type "builtin_function_or_method") none (Data.fields (List.toArray [(Value.builtin "type.__prepare__"), (Value.type "type")])) (List.toArray []))
 (.node (Obj.mk (Value.type "tuple") none (Data.seq (List.toArray []) 0) (List.toArray []))
 (.node (Obj.mk Value.none none (Data.fields (List.toArray [])) (List.toArray []))
 (.node (Obj.mk Value.none none (Data.fields (List.toArray [])) (List.toArray []))
 (.node (Obj.mk (Value.type "code") none (Data.fields (List.toArray [(Value.str (Str.ofString "cut_back") 859), (Value.str (Str.ofString "Areas.cut_back") 860), (Value.str (Str.ofString "/claim/cut.py") 861), (Value.int 315 0), (Value.int 2 0), (Value.int 0 0), (Value.int 0 0), (Value.int 3 0), (Value.ref 511), (Value.bool Bool.true), (Value.int 181 0), (Value.ref 512), Value.none, (Value.ref 513), (Value.ref 514), (Value.ref 515), (Value.int 864 0), (Value.int 315 0), (Value.str (Str.ofString "/claim/cut.py") 865)])) (List.toArray []))
 .nil .nil) .nil) (.node (Obj.mk (Value.type "tuple") none (Data.seq (List.toArray []) 0) (List.toArray []))
 .nil .nil)) (.node (Obj.mk (Value.type "tuple") none (Data.seq (List.toArray []) 0) (List.toArray []))
 (.node (Obj.mk (Value.type "type") none (Data.cls (ClassData.mk (Str.ofString "Cells") [(Value.type "object")] [(Value.ref 324), (Value.type "object")] 323 (Str.ofString "Cells") Bool.true [] [(Value.ref 374)] Bool.false none Bool.false)) (List.toArray [none, none, (some (Value.str (Str.ofString "Cells") 416)), (some (Value.str (Str.ofString "Cells") 424)), (some (Value.builtin "object.__new__")), (some (Value.bool Bool.true))]))
 .nil .nil) (.node (Obj.mk Value.none none (Data.func (FuncData.mk (Str.ofString "push_environment") (Str.ofString "Areas.push_environment") kA454.1 (FuncBody.stmts kB454.1) kS454.1 0 [] Value.none Value.none Value.none Value.none none Value.none Value.none 0)) (List.toArray []))
 .nil .nil))) (.node (Obj.mk Value.none none (Data.func (FuncData.mk (Str.ofString "functor") (Str.ofString "Symbols.functor") kA102.1 (FuncBody.stmts kB102.1) kS102.1 0 [] Value.none Value.none Value.none Value.none none Value.none Value.none 0)) (List.toArray []))
 (.node (Obj.mk (Value.type "code") none (Data.fields (List.toArray [(Value.str (Str.ofString "system_error") 378), (Value.str (Str.ofString "system_error") 379), (Value.str (Str.ofString "/claim/cut.py") 380), (Value.int 72 0), (Value.int 1 0), (Value.int 0 0), (Value.int 0 0), (Value.int 3 0), (Value.ref 159), (Value.bool Bool.true), (Value.int 181 0), (Value.ref 160), Value.none, (Value.ref 161), (Value.ref 162), (Value.ref 163), (Value.int 382 0), (Value.int 72 0), (Value.str (Str.ofString "/claim/cut.py") 383)])) (List.toArray []))
 (.node (Obj.mk (Value.type "code") none (Data.fields (List.toArray [(Value.str (Str.ofString "functor_of") 548), (Value.str (Str.ofString "Cells.functor_of") 549), (Value.str (Str.ofString "/claim/cut.py") 550), (Value.int 155 0), (Value.int 2 0), (Value.int 0 0), (Value.int 0 0), (Value.int 3 0), (Value.ref 287), (Value.bool Bool.true), (Value.int 181 0), (Value.ref 288), Value.none, (Value.ref 289), (Value.ref 290), (Value.ref 291), (Value.int 553 0), (Value.int 155 0), (Value.str (Str.ofString "/claim/cut.py") 554)])) (List.toArray []))
 (.node (Obj.mk (Value.type "tuple") none (Data.seq (List.toArray [(Value.str (Str.ofString "strip") 928), (Value.str (Str.ofString "many") 929)]) 0) (List.toArray []))
 .nil .nil) .nil) (.node (Obj.mk (Value.type "tuple") none (Data.seq (List.toArray []) 0) (List.toArray []))
 .nil .nil)) (.node (Obj.mk Value.none none (Data.func (FuncData.mk (Str.ofString "deref") (Str.ofString "Cells.deref") kA230.1 (FuncBody.stmts kB230.1) kS230.1 0 [] Value.none Value.none Value.none Value.none none Value.none Value.none 0)) (List.toArray []))
 (.node (Obj.mk (Value.type "code") none (Data.fields (List.toArray [(Value.str (Str.ofString "list_cells") 634), (Value.str (Str.ofString "Store.list_cells") 635), (Value.str (Str.ofString "/claim/cut.py") 636), (Value.int 179 0), (Value.int 2 0), (Value.int 0 0), (Value.int 0 0), (Value.int 3 0), (Value.ref 351), (Value.bool Bool.true), (Value.int 181 0), (Value.ref 352), Value.none, (Value.ref 353), (Value.ref 354), (Value.ref 355), (Value.int 639 0), (Value.int 179 0), (Value.str (Str.ofString "/claim/cut.py") 640)])) (List.toArray []))
 .nil .nil) (.node (Obj.mk Value.none none (Data.fields (List.toArray [])) (List.toArray []))
 .nil .nil)))) (.node (Obj.mk (Value.type "super") none (Data.fields (List.toArray [(Value.ref 51), (Value.ref 51), (Value.ref 51)])) (List.toArray []))
 (.node (Obj.mk (Value.type "tuple") none (Data.seq (List.toArray [(Value.str (Str.ofString "self") 281), (Value.str (Str.ofString "text") 282), (Value.str (Str.ofString "found") 283), (Value.str (Str.ofString "number") 284)]) 0) (List.toArray []))
 (.node (Obj.mk (Value.type "tuple") none (Data.seq (List.toArray []) 0) (List.toArray []))
 (.node (Obj.mk (Value.type "tuple") none (Data.seq (List.toArray []) 0) (List.toArray []))
 (.node (Obj.mk (Value.type "tuple") none (Data.seq (List.toArray [(Value.str (Str.ofString "b") 886), (Value.str (Str.ofString "b0") 887), (Value.str (Str.ofString "bags") 888), (Value.str (Str.ofString "code") 889), (Value.str (Str.ofString "collect_wanted") 890), (Value.str (Str.ofString "cp") 891), (Value.str (Str.ofString "e") 892), (Value.str (Str.ofString "guard") 893), (Value.str (Str.ofString "max_bits") 894), (Value.str (Str.ofString "max_heap") 895), (Value.str (Str.ofString "mode") 896), (Value.str (Str.ofString "occurs") 897), (Value.str (Str.ofString "p") 898), (Value.str (Str.ofString "roots") 899), (Value.str (Str.ofString "s") 900), (Value.str (Str.ofString "store") 901), (Value.str (Str.ofString "symbols") 902), (Value.str (Str.ofString "x") 903)]) 0) (List.toArray []))
 .nil .nil) .nil) (.node (Obj.mk (Value.type "code") none (Data.fields (List.toArray [(Value.str (Str.ofString "set_x") 717), (Value.str (Str.ofString "Areas.set_x") 718), (Value.str (Str.ofString "/claim/cut.py") 719), (Value.int 222 0), (Value.int 3 0), (Value.int 0 0), (Value.int 0 0), (Value.int 3 0), (Value.ref 399), (Value.bool Bool.true), (Value.int 181 0), (Value.ref 400), Value.none, (Value.ref 401), (Value.ref 402), (Value.ref 403), (Value.int 723 0), (Value.int 222 0), (Value.str (Str.ofString "/claim/cut.py") 724)])) (List.toArray []))
 .nil .nil)) (.node (Obj.mk (Value.type "tuple") none (Data.seq (List.toArray [(Value.str (Str.ofString "self") 458), (Value.str (Str.ofString "count") 459)]) 0) (List.toArray []))
 (.node (Obj.mk Value.none none (Data.func (FuncData.mk (Str.ofString "new_struct") (Str.ofString "Store.new_struct") kA342.1 (FuncBody.stmts kB342.1) kS342.1 0 [] Value.none Value.none Value.none Value.none none Value.none Value.none 0)) (List.toArray []))
 .nil .nil) (.node (Obj.mk (Value.type "function") none (Data.func (FuncData.mk (Str.ofString "in_chain") (Str.ofString "Areas.in_chain") kA468.1 (FuncBody.stmts kB468.1) kS468.1 3 [] Value.none Value.none Value.none (Value.str (Str.ofString "clausemill.areas") 664) none (Value.ref 467) Value.none 0)) (List.toArray []))
 .nil .nil))) (.node (Obj.mk (Value.type "function") none (Data.func (FuncData.mk (Str.ofString "name") (Str.ofString "Symbols.name") kA116.1 (FuncBody.stmts kB116.1) kS116.1 3 [] Value.none Value.none Value.none (Value.str (Str.ofString "clausemill.symbols") 194) none (Value.ref 115) Value.none 0)) (List.toArray []))
 (.node (Obj.mk (Value.type "tuple") none (Data.seq (List.toArray [(Value.int 5 412), (Value.int 0 414)]) 0) (List.toArray []))
 (.node (Obj.mk (Value.type "tuple") none (Data.seq (List.toArray []) 0) (List.toArray []))
 (.node (Obj.mk Value.none none (Data.fields (List.toArray [])) (List.toArray []))
 .nil .nil) .nil) (.node (Obj.mk (Value.type "tuple") none (Data.seq (List.toArray [(Value.str (Str.ofString "self") 762), (Value.str (Str.ofString "term") 763)]) 0) (List.toArray []))
 .nil .nil)) (.node (Obj.mk (Value.type "function") none (Data.func (FuncData.mk (Str.ofString "bind") (Str.ofString "Cells.bind") kA244.1 (FuncBody.stmts kB244.1) kS244.1 3 [] Value.none Value.none Value.none (Value.str (Str.ofString "clausemill.store") 404) none (Value.ref 243) Value.none 0)) (List.toArray []))
 (.node (Obj.mk (Value.type "tuple") none (Data.seq (List.toArray []) 0) (List.toArray []))
 .nil .nil) (.node (Obj.mk (Value.type "tuple") none (Data.seq (List.toArray []) 0) (List.toArray []))
 .nil .nil))))) (.node (Obj.mk (Value.type "frame") none Data.plain (List.toArray [(some (Value.ref 27)), (some (Value.ref 3)), (some (Value.ref 24)), none, (some (Value.str (Str.ofString "clausemill.symbols") 194)), none, (some (Value.ref 0))]))
 (.node (Obj.mk (Value.type "tuple") none (Data.seq (List.toArray [(Value.str (Str.ofString "self") 231), (Value.str (Str.ofString "ball") 232)]) 0) (List.toArray []))
 (.node (Obj.mk Value.none none (Data.fields (List.toArray [])) (List.toArray []))
 (.node (Obj.mk (Value.type "tuple") none (Data.seq (List.toArray [(Value.str (Str.ofString "self") 351)]) 0) (List.toArray []))
 (.node (Obj.mk (Value.type "tuple") none (Data.seq (List.toArray [(Value.str (Str.ofString "self") 523), (Value.str (Str.ofString "mark") 524), (Value.str (Str.ofString "entry") 525), (Value.str (Str.ofString "slot") 526)]) 0) (List.toArray []))
 (.node (Obj.mk (Value.type "function") none (Data.func (FuncData.mk (Str.ofString "choices") (Str.ofString "Areas.choices") kA524.1 (FuncBody.stmts kB524.1) kS524.1 3 [] Value.none Value.none Value.none (Value.str (Str.ofString "clausemill.areas") 664) none (Value.ref 523) Value.none 0)) (List.toArray []))
 .nil .nil) .nil) (.node (Obj.mk Value.none none (Data.func (FuncData.mk (Str.ofString "reset") (Str.ofString "Areas.reset") kA398.1 (FuncBody.stmts kB398.1) kS398.1 0 [] Value.none Value.none Value.none Value.none none Value.none Value.none 0)) (List.toArray []))
 .nil .nil)) (.node (Obj.mk Value.none none (Data.fields (List.toArray [])) (List.toArray []))
 (.node (Obj.mk (Value.type "tuple") none (Data.seq (List.toArray []) 0) (List.toArray []))
 .nil .nil) (.node (Obj.mk (Value.type "code") none (Data.fields (List.toArray [(Value.str (Str.ofString "pop_environment") 785), (Value.str (Str.ofString "Areas.pop_environment") 786), (Value.str (Str.ofString "/claim/cut.py") 787), (Value.int 258 0), (Value.int 1 0), (Value.int 0 0), (Value.int 0 0), (Value.int 3 0), (Value.ref 455), (Value.bool Bool.true), (Value.int 181 0), (Value.ref 456), Value.none, (Value.ref 457), (Value.ref 458), (Value.ref 459), (Value.int 790 0), (Value.int 258 0), (Value.str (Str.ofString "/claim/cut.py") 791)])) (List.toArray []))
 .nil .nil))) (.node (Obj.mk (Value.type "code") none (Data.fields (List.toArray [(Value.str (Str.ofString "func") 308), (Value.str (Str.ofString "Symbols.func") 309), (Value.str (Str.ofString "/claim/cut.py") 310), (Value.int 51 0), (Value.int 3 0), (Value.int 0 0), (Value.int 0 0), (Value.int 3 0), (Value.ref 103), (Value.bool Bool.true), (Value.int 181 0), (Value.ref 104), Value.none, (Value.ref 105), (Value.ref 106), (Value.ref 107), (Value.int 314 0), (Value.int 51 0), (Value.str (Str.ofString "/claim/cut.py") 315)])) (List.toArray []))
 (.node (Obj.mk (Value.type "function") none (Data.func (FuncData.mk (Str.ofString "formal_of") (Str.ofString "formal_of") kA172.1 (FuncBody.stmts kB172.1) kS172.1 3 [] Value.none Value.none Value.none (Value.str (Str.ofString "clausemill.terms") 376) none (Value.ref 171) Value.none 0)) (List.toArray []))
 (.node (Obj.mk (Value.type "function") none (Data.func (FuncData.mk (Str.ofString "width") (Str.ofString "Cells.width") kA300.1 (FuncBody.stmts kB300.1) kS300.1 3 [] Value.none Value.none Value.none (Value.str (Str.ofString "clausemill.store") 404) none (Value.ref 299) Value.none 0)) (List.toArray []))
 (.node (Obj.mk (Value.type "code") none (Data.fields (List.toArray [(Value.str (Str.ofString "_law_row_stands") 933), (Value.str (Str.ofString "_law_row_stands") 934), (Value.str (Str.ofString "/claim/cut.py") 935), (Value.int 352 0), (Value.int 2 0), (Value.int 0 0), (Value.int 0 0), (Value.int 3 0), (Value.ref 553), (Value.bool Bool.true), (Value.int 181 0), (Value.ref 554), Value.none, Value.none, Value.none, (Value.ref 555), (Value.int 936 0), (Value.int 352 0), (Value.str (Str.ofString "/claim/cut.py") 937)])) (List.toArray []))
 .nil .nil) .nil) (.node (Obj.mk Value.none none (Data.fields (List.toArray [])) (List.toArray []))
 .nil .nil)) (.node (Obj.mk (Value.type "code") none (Data.fields (List.toArray [(Value.str (Str.ofString "is_unbound") 479), (Value.str (Str.ofString "Cells.is_unbound") 480), (Value.str (Str.ofString "/claim/cut.py") 481), (Value.int 119 0), (Value.int 2 0), (Value.int 0 0), (Value.int 0 0), (Value.int 3 0), (Value.ref 231), (Value.bool Bool.true), (Value.int 181 0), (Value.ref 232), Value.none, (Value.ref 233), (Value.ref 234), (Value.ref 235), (Value.int 484 0), (Value.int 119 0), (Value.str (Str.ofString "/claim/cut.py") 485)])) (List.toArray []))
 (.node (Obj.mk (Value.type "function") none (Data.func (FuncData.mk (Str.ofString "put_term") (Str.ofString "Store.put_term") kA364.1 (FuncBody.stmts kB364.1) kS364.1 3 [] Value.none Value.none Value.none (Value.str (Str.ofString "clausemill.store") 404) none (Value.ref 363) Value.none 0)) (List.toArray []))
 .nil .nil) (.node (Obj.mk (Value.type "tuple") none (Data.seq (List.toArray [(Value.str (Str.ofString "self") 836), (Value.str (Str.ofString "part") 837), (Value.str (Str.ofString "stack") 838)]) 0) (List.toArray []))
 .nil .nil)))) (.node (Obj.mk (Value.type "function") none (Data.func (FuncData.mk (Str.ofString "fixed_atoms") (Str.ofString "fixed_atoms") kA60.1 (FuncBody.stmts kB60.1) kS60.1 3 [] Value.none Value.none Value.none (Value.str (Str.ofString "clausemill.symbols") 194) none (Value.ref 59) Value.none 0)) (List.toArray []))
 (.node (Obj.mk (Value.type "tuple") none (Data.seq (List.toArray []) 0) (List.toArray []))
 (.node (Obj.mk (Value.type "getset_descriptor") none (Data.fields (List.toArray [(Value.str (Str.ofString "__weakref__") 371), (Value.ref 154), (Value.builtin "ExceptionGroup.__weakref__"), Value.none])) (List.toArray []))
 (.node (Obj.mk Value.none none (Data.func (FuncData.mk (Str.ofString "is_compound") (Str.ofString "Cells.is_compound") kA286.1 (FuncBody.stmts kB286.1) kS286.1 0 [] Value.none Value.none Value.none Value.none none Value.none Value.none 0)) (List.toArray []))
 (.node (Obj.mk Value.none none (Data.fields (List.toArray [])) (List.toArray []))
 .nil .nil) .nil) (.node (Obj.mk (Value.type "function") none (Data.func (FuncData.mk (Str.ofString "set_arguments") (Str.ofString "Areas.set_arguments") kA412.1 (FuncBody.stmts kB412.1) kS412.1 3 [] Value.none Value.none Value.none (Value.str (Str.ofString "clausemill.areas") 664) none (Value.ref 411) Value.none 0)) (List.toArray []))
 .nil .nil)) (.node (Obj.mk (Value.type "tuple") none (Data.seq (List.toArray []) 0) (List.toArray []))
 (.node (Obj.mk Value.none none (Data.func (FuncData.mk (Str.ofString "build_list") (Str.ofString "Store.build_list") kA350.1 (FuncBody.stmts kB350.1) kS350.1 0 [] Value.none Value.none Value.none Value.none none Value.none Value.none 0)) (List.toArray []))
 .nil .nil) (.node (Obj.mk (Value.type "tuple") none (Data.seq (List.toArray []) 0) (List.toArray []))
 .nil .nil))) (.node (Obj.mk (Value.type "tuple") none (Data.seq (List.toArray []) 0) (List.toArray []))
 (.node (Obj.mk (Value.type "tuple") none (Data.seq (List.toArray [(Value.int 100000 428)]) 0) (List.toArray []))
 (.node (Obj.mk Value.none none (Data.fields (List.toArray [])) (List.toArray []))
 .nil .nil) (.node (Obj.mk (Value.type "tuple") none (Data.seq (List.toArray []) 0) (List.toArray []))
 .nil .nil)) (.node (Obj.mk (Value.type "tuple") none (Data.seq (List.toArray []) 0) (List.toArray []))
 (.node (Obj.mk (Value.type "tuple") none (Data.seq (List.toArray []) 0) (List.toArray []))
 .nil .nil) (.node (Obj.mk Value.none none (Data.func (FuncData.mk (Str.ofString "pop_choice") (Str.ofString "Areas.pop_choice") kA510.1 (FuncBody.stmts kB510.1) kS510.1 0 [] Value.none Value.none Value.none Value.none none Value.none Value.none 0)) (List.toArray []))
 .nil .nil))))))) (.node (W.boot_o_6 P)
 (.node (W.boot_o_10 P)
 (.node (Obj.mk (Value.type "tuple") none (Data.seq (List.toArray []) 0) (List.toArray []))
 (.node (Obj.mk (Value.type "builtin_function_or_method") none (Data.fields (List.toArray [(Value.builtin "object.__init_subclass__"), (Value.ref 31)])) (List.toArray []))
 (.node (Obj.mk (Value.type "code") none (Data.fields (List.toArray [(Value.str (Str.ofString "fixed_functors") 251), (Value.str (Str.ofString "fixed_functors") 252), (Value.str (Str.ofString "/claim/cut.py") 253), (Value.int 15 0), (Value.int 0 0), (Value.int 0 0), (Value.int 0 0), (Value.int 3 0), (Value.ref 61), (Value.bool Bool.true), (Value.int 181 0), (Value.ref 62), Value.none, (Value.ref 63), (Value.ref 64), (Value.ref 65), (Value.int 254 0), (Value.int 15 0), (Value.str (Str.ofString "/claim/cut.py") 255)])) (List.toArray []))
 (.node (Obj.mk (Value.type "function") none (Data.func (FuncData.mk (Str.ofString "label") (Str.ofString "Symbols.label") kA130.1 (FuncBody.stmts kB130.1) kS130.1 3 [] Value.none Value.none Value.none (Value.str (Str.ofString "clausemill.symbols") 194) none (Value.ref 129) Value.none 0)) (List.toArray []))
 (.node (Obj.mk (Value.type "function") none (Data.func (FuncData.mk (Str.ofString "globalise") (Str.ofString "Cells.globalise") kA258.1 (FuncBody.stmts kB258.1) kS258.1 3 [] Value.none Value.none Value.none (Value.str (Str.ofString "clausemill.store") 404) none (Value.ref 257) Value.none 0)) (List.toArray []))
 (.node (Obj.mk (Value.type "tuple") none (Data.seq (List.toArray []) 0) (List.toArray []))
 .nil .nil) .nil) (.node (Obj.mk Value.none none (Data.fields (List.toArray [])) (List.toArray []))
 .nil .nil)) (.node (Obj.mk (Value.type "code") none (Data.fields (List.toArray [(Value.str (Str.ofString "__init__") 429), (Value.str (Str.ofString "Cells.__init__") 430), (Value.str (Str.ofString "/claim/cut.py") 431), (Value.int 89 0), (Value.int 3 0), (Value.int 0 0), (Value.int 0 0), (Value.int 3 0), (Value.ref 189), (Value.bool Bool.true), (Value.int 181 0), (Value.ref 190), Value.none, (Value.ref 191), (Value.ref 192), (Value.ref 193), (Value.int 435 0), (Value.int 89 0), (Value.str (Str.ofString "/claim/cut.py") 436)])) (List.toArray []))
 (.node (Obj.mk (Value.type "tuple") none (Data.seq (List.toArray [(Value.str (Str.ofString "bb") 589), (Value.str (Str.ofString "hb") 590), (Value.str (Str.ofString "heap") 591), (Value.str (Str.ofString "max_heap") 592), (Value.str (Str.ofString "stack") 593), (Value.str (Str.ofString "symbols") 594), (Value.str (Str.ofString "trail") 595)]) 0) (List.toArray []))
 .nil .nil) (.node (Obj.mk (Value.type "tuple") none (Data.seq (List.toArray [(Value.str (Str.ofString "self") 777), (Value.str (Str.ofString "size") 778), (Value.str (Str.ofString "place") 779), (Value.str (Str.ofString "store") 780), (Value.str (Str.ofString "number") 781)]) 0) (List.toArray []))
 .nil .nil))) (.node (Obj.mk (Value.type "tuple") none (Data.seq (List.toArray [(Value.str (Str.ofString "self") 299), (Value.str (Str.ofString "atom") 300), (Value.str (Str.ofString "arity") 301), (Value.str (Str.ofString "key") 302), (Value.str (Str.ofString "found") 303), (Value.str (Str.ofString "number") 304)]) 0) (List.toArray []))
 (.node (Obj.mk (Value.type "tuple") none (Data.seq (List.toArray []) 0) (List.toArray []))
 (.node (Obj.mk (Value.type "tuple") none (Data.seq (List.toArray []) 0) (List.toArray []))
 (.node (Obj.mk (Value.type "tuple") none (Data.seq (List.toArray []) 0) (List.toArray []))
 .nil .nil) .nil) (.node (Obj.mk (Value.type "code") none (Data.fields (List.toArray [(Value.str (Str.ofString "arg") 734), (Value.str (Str.ofString "Areas.arg") 735), (Value.str (Str.ofString "/claim/cut.py") 736), (Value.int 230 0), (Value.int 2 0), (Value.int 0 0), (Value.int 0 0), (Value.int 3 0), (Value.ref 413), (Value.bool Bool.true), (Value.int 181 0), (Value.ref 414), Value.none, (Value.ref 415), (Value.ref 416), (Value.ref 417), (Value.int 739 0), (Value.int 230 0), (Value.str (Str.ofString "/claim/cut.py") 740)])) (List.toArray []))
 .nil .nil)) (.node (Obj.mk (Value.type "tuple") none (Data.seq (List.toArray [(Value.str (Str.ofString "self") 474), (Value.str (Str.ofString "cell") 475)]) 0) (List.toArray []))
 (.node (Obj.mk (Value.type "tuple") none (Data.seq (List.toArray []) 0) (List.toArray []))
 .nil .nil) (.node (Obj.mk (Value.type "function") none (Data.func (FuncData.mk (Str.ofString "push_choice") (Str.ofString "Areas.push_choice") kA482.1 (FuncBody.stmts kB482.1) kS482.1 3 [] Value.none Value.none Value.none (Value.str (Str.ofString "clausemill.areas") 664) none (Value.ref 481) Value.none 0)) (List.toArray []))
 .nil .nil)))) (.node (Obj.mk (Value.type "dict") none (Data.dict (List.toArray [(DictEntry.mk (PyData.keyHash P (Str.ofString "__module__")) (Value.str (Str.ofString "__module__") 223) (Value.str (Str.ofString "clausemill.symbols") 194)), (DictEntry.mk (PyData.keyHash P (Str.ofString "__firstlineno__")) (Value.str (Str.ofString "__firstlineno__") 227) (Value.int 7 226)), (DictEntry.mk (PyData.keyHash P (Str.ofString "__init__")) (Value.str (Str.ofString "__init__") 235) (Value.ref 48)), (DictEntry.mk (PyData.keyHash P (Str.ofString "__static_attributes__")) (Value.str (Str.ofString "__static_attributes__") 237) (Value.ref 49)), (DictEntry.mk (PyData.keyHash P (Str.ofString "__doc__")) (Value.str (Str.ofString "__doc__") 238) Value.none)]) 2) (List.toArray []))
 (.node (Obj.mk (Value.type "tuple") none (Data.seq (List.toArray []) 0) (List.toArray []))
 (.node (Obj.mk Value.none none (Data.fields (List.toArray [])) (List.toArray []))
 (.node (Obj.mk Value.none none (Data.fields (List.toArray [])) (List.toArray []))
 (.node (Obj.mk (Value.type "code") none (Data.fields (List.toArray [(Value.str (Str.ofString "environments") 877), (Value.str (Str.ofString "Areas.environments") 878), (Value.str (Str.ofString "/claim/cut.py") 879), (Value.int 328 0), (Value.int 1 0), (Value.int 0 0), (Value.int 0 0), (Value.int 3 0), (Value.ref 525), (Value.bool Bool.true), (Value.int 181 0), (Value.ref 526), Value.none, (Value.ref 527), (Value.ref 528), (Value.ref 529), (Value.int 883 0), (Value.int 328 0), (Value.str (Str.ofString "/claim/cut.py") 884)])) (List.toArray []))
 .nil .nil) .nil) (.node (Obj.mk (Value.type "tuple") none (Data.seq (List.toArray []) 0) (List.toArray []))
 .nil .nil)) (.node (Obj.mk (Value.type "tuple") none (Data.seq (List.toArray []) 0) (List.toArray []))
 (.node (Obj.mk (Value.type "tuple") none (Data.seq (List.toArray [(Value.str (Str.ofString "self") 619), (Value.str (Str.ofString "f") 620), (Value.str (Str.ofString "cells") 621)]) 0) (List.toArray []))
 .nil .nil) (.node (Obj.mk Value.none none (Data.func (FuncData.mk (Str.ofString "in_chain") (Str.ofString "Areas.in_chain") kA468.1 (FuncBody.stmts kB468.1) kS468.1 0 [] Value.none Value.none Value.none Value.none none Value.none Value.none 0)) (List.toArray []))
 .nil .nil))) (.node (Obj.mk Value.none none (Data.func (FuncData.mk (Str.ofString "name") (Str.ofString "Symbols.name") kA116.1 (FuncBody.stmts kB116.1) kS116.1 0 [] Value.none Value.none Value.none Value.none none Value.none Value.none 0)) (List.toArray []))
 (.node (Obj.mk (Value.type "code") none (Data.fields (List.toArray [(Value.str (Str.ofString "resource_error") 396), (Value.str (Str.ofString "resource_error") 397), (Value.str (Str.ofString "/claim/cut.py") 398), (Value.int 79 0), (Value.int 2 0), (Value.int 0 0), (Value.int 0 0), (Value.int 3 0), (Value.ref 173), (Value.bool Bool.true), (Value.int 181 0), (Value.ref 174), Value.none, (Value.ref 175), (Value.ref 176), (Value.ref 177), (Value.int 401 0), (Value.int 79 0), (Value.str (Str.ofString "/claim/cut.py") 402)])) (List.toArray []))
 (.node (Obj.mk (Value.type "code") none (Data.fields (List.toArray [(Value.str (Str.ofString "base") 564), (Value.str (Str.ofString "Cells.base") 565), (Value.str (Str.ofString "/claim/cut.py") 566), (Value.int 161 0), (Value.int 2 0), (Value.int 0 0), (Value.int 0 0), (Value.int 3 0), (Value.ref 301), (Value.bool Bool.true), (Value.int 181 0), (Value.ref 302), Value.none, (Value.ref 303), (Value.ref 304), (Value.ref 305), (Value.int 569 0), (Value.int 161 0), (Value.str (Str.ofString "/claim/cut.py") 570)])) (List.toArray []))
 (.node (Obj.mk (Value.type "function") none (Data.func (FuncData.mk (Str.ofString "_law_stands") (Str.ofString "_law_stands") kA562.1 (FuncBody.stmts kB562.1) kS562.1 3 [] Value.none Value.none Value.none (Value.str (Str.ofString "law_ok0027_01") 912) none (Value.ref 561) Value.none 0)) (List.toArray []))
 .nil .nil) .nil) (.node (Obj.mk (Value.type "tuple") none (Data.seq (List.toArray []) 0) (List.toArray []))
 .nil .nil)) (.node (Obj.mk Value.none none (Data.func (FuncData.mk (Str.ofString "bind") (Str.ofString "Cells.bind") kA244.1 (FuncBody.stmts kB244.1) kS244.1 0 [] Value.none Value.none Value.none Value.none none Value.none Value.none 0)) (List.toArray []))
 (.node (Obj.mk (Value.type "code") none (Data.fields (List.toArray [(Value.str (Str.ofString "take_term") 651), (Value.str (Str.ofString "Store.take_term") 652), (Value.str (Str.ofString "/claim/cut.py") 653), (Value.int 185 0), (Value.int 3 0), (Value.int 0 0), (Value.int 0 0), (Value.int 3 0), (Value.ref 365), (Value.bool Bool.true), (Value.int 181 0), (Value.ref 366), Value.none, (Value.ref 367), (Value.ref 368), (Value.ref 369), (Value.int 657 0), (Value.int 185 0), (Value.str (Str.ofString "/claim/cut.py") 658)])) (List.toArray []))
 .nil .nil) (.node (Obj.mk Value.none none (Data.fields (List.toArray [])) (List.toArray []))
 .nil .nil))))) (.node (Obj.mk Value.none none (Data.fields (List.toArray [])) (List.toArray []))
 (.node (Obj.mk (Value.type "tuple") none (Data.seq (List.toArray []) 0) (List.toArray []))
 (.node (Obj.mk (Value.type "frame") none Data.plain (List.toArray [(some (Value.ref 73)), (some (Value.ref 3)), (some (Value.ref 70)), none, (some (Value.str (Str.ofString "clausemill.symbols") 194)), none, (some (Value.ref 0))]))
 (.node (Obj.mk (Value.type "tuple") none (Data.seq (List.toArray []) 0) (List.toArray []))
 (.node (Obj.mk (Value.type "tuple") none (Data.seq (List.toArray []) 0) (List.toArray []))
 (.node (Obj.mk Value.none none (Data.func (FuncData.mk (Str.ofString "choices") (Str.ofString "Areas.choices") kA524.1 (FuncBody.stmts kB524.1) kS524.1 0 [] Value.none Value.none Value.none Value.none none Value.none Value.none 0)) (List.toArray []))
 .nil .nil) .nil) (.node (Obj.mk (Value.type "tuple") none (Data.seq (List.toArray [(Value.str (Str.ofString "self") 713)]) 0) (List.toArray []))
 .nil .nil)) (.node (Obj.mk (Value.type "function") none (Data.func (FuncData.mk (Str.ofString "push") (Str.ofString "Cells.push") kA202.1 (FuncBody.stmts kB202.1) kS202.1 3 [] Value.none Value.none Value.none (Value.str (Str.ofString "clausemill.store") 404) none (Value.ref 201) Value.none 0)) (List.toArray []))
 (.node (Obj.mk (Value.type "builtin_function_or_method") none (Data.fields (List.toArray [(Value.builtin "type.__prepare__"), (Value.type "type")])) (List.toArray []))
 .nil .nil) (.node (Obj.mk (Value.type "tuple") none (Data.seq (List.toArray []) 0) (List.toArray []))
 .nil .nil))) (.node (Obj.mk (Value.type "tuple") none (Data.seq (List.toArray []) 0) (List.toArray []))
 (.node (Obj.mk Value.none none (Data.func (FuncData.mk (Str.ofString "formal_of") (Str.ofString "formal_of") kA172.1 (FuncBody.stmts kB172.1) kS172.1 0 [] Value.none Value.none Value.none Value.none none Value.none Value.none 0)) (List.toArray []))
 (.node (Obj.mk Value.none none (Data.func (FuncData.mk (Str.ofString "width") (Str.ofString "Cells.width") kA300.1 (FuncBody.stmts kB300.1) kS300.1 0 [] Value.none Value.none Value.none Value.none none Value.none Value.none 0)) (List.toArray []))
 (.node (Obj.mk Value.none none (Data.fields (List.toArray [])) (List.toArray []))
 .nil .nil) .nil) (.node (Obj.mk (Value.type "function") none (Data.func (FuncData.mk (Str.ofString "unify") (Str.ofString "Areas.unify") kA426.1 (FuncBody.stmts kB426.1) kS426.1 3 [] Value.none Value.none Value.none (Value.str (Str.ofString "clausemill.areas") 664) none (Value.ref 425) Value.none 0)) (List.toArray []))
 .nil .nil)) (.node (Obj.mk (Value.type "tuple") none (Data.seq (List.toArray []) 0) (List.toArray []))
 (.node (Obj.mk Value.none none (Data.func (FuncData.mk (Str.ofString "put_term") (Str.ofString "Store.put_term") kA364.1 (FuncBody.stmts kB364.1) kS364.1 0 [] Value.none Value.none Value.none Value.none none Value.none Value.none 0)) (List.toArray []))
 .nil .nil) (.node (Obj.mk (Value.type "tuple") none (Data.seq (List.toArray []) 0) (List.toArray []))
 .nil .nil)))) (.node (Obj.mk Value.none none (Data.func (FuncData.mk (Str.ofString "fixed_atoms") (Str.ofString "fixed_atoms") kA60.1 (FuncBody.stmts kB60.1) kS60.1 0 [] Value.none Value.none Value.none Value.none none Value.none Value.none 0)) (List.toArray []))
 (.node (Obj.mk Value.none none (Data.fields (List.toArray [])) (List.toArray []))
 (.node (Obj.mk (Value.type "type") none (Data.cls (ClassData.mk (Str.ofString "Symbols") [(Value.type "object")] [(Value.ref 154), (Value.type "object")] 153 (Str.ofString "Symbols") Bool.true [] [] Bool.false none Bool.false)) (List.toArray [none, none, (some (Value.str (Str.ofString "Symbols") 257)), (some (Value.str (Str.ofString "Symbols") 265)), (some (Value.builtin "object.__new__")), (some (Value.bool Bool.true))]))
 (.node (Obj.mk (Value.type "tuple") none (Data.seq (List.toArray [(Value.str (Str.ofString "self") 543), (Value.str (Str.ofString "cell") 544)]) 0) (List.toArray []))
 (.node (Obj.mk (Value.type "builtin_function_or_method") none (Data.fields (List.toArray [(Value.builtin "object.__init_subclass__"), (Value.ref 534)])) (List.toArray []))
 .nil .nil) .nil) (.node (Obj.mk Value.none none (Data.func (FuncData.mk (Str.ofString "set_arguments") (Str.ofString "Areas.set_arguments") kA412.1 (FuncBody.stmts kB412.1) kS412.1 0 [] Value.none Value.none Value.none Value.none none Value.none Value.none 0)) (List.toArray []))
 .nil .nil)) (.node (Obj.mk Value.none none (Data.fields (List.toArray [])) (List.toArray []))
 (.node (Obj.mk (Value.type "tuple") none (Data.seq (List.toArray [(Value.str (Str.ofString "self") 628), (Value.str (Str.ofString "cells") 629), (Value.str (Str.ofString "tail") 630)]) 0) (List.toArray []))
 .nil .nil) (.node (Obj.mk (Value.type "code") none (Data.fields (List.toArray [(Value.str (Str.ofString "set_choice") 801), (Value.str (Str.ofString "Areas.set_choice") 802), (Value.str (Str.ofString "/claim/cut.py") 803), (Value.int 266 0), (Value.int 2 0), (Value.int 0 0), (Value.int 0 0), (Value.int 3 0), (Value.ref 469), (Value.bool Bool.true), (Value.int 181 0), (Value.ref 470), Value.none, (Value.ref 471), (Value.ref 472), (Value.ref 473), (Value.int 807 0), (Value.int 266 0), (Value.str (Str.ofString "/claim/cut.py") 808)])) (List.toArray []))
 .nil .nil))) (.node (Obj.mk (Value.type "code") none (Data.fields (List.toArray [(Value.str (Str.ofString "arity") 325), (Value.str (Str.ofString "Symbols.arity") 326), (Value.str (Str.ofString "/claim/cut.py") 327), (Value.int 57 0), (Value.int 2 0), (Value.int 0 0), (Value.int 0 0), (Value.int 3 0), (Value.ref 117), (Value.bool Bool.true), (Value.int 181 0), (Value.ref 118), Value.none, (Value.ref 119), (Value.ref 120), (Value.ref 121), (Value.int 330 0), (Value.int 57 0), (Value.str (Str.ofString "/claim/cut.py") 331)])) (List.toArray []))
 (.node (Obj.mk (Value.type "code") none (Data.fields (List.toArray [(Value.str (Str.ofString "Cells") 418), (Value.str (Str.ofString "Cells") 419), (Value.str (Str.ofString "/claim/cut.py") 420), (Value.int 87 0), (Value.int 0 0), (Value.int 0 0), (Value.int 0 0), (Value.int 0 0), (Value.ref 184), (Value.bool Bool.false), (Value.int 181 0), (Value.ref 185), Value.none, Value.none, Value.none, Value.none, (Value.int 421 0), (Value.int 87 0), (Value.str (Str.ofString "/claim/cut.py") 422)])) (List.toArray []))
 (.node (Obj.mk (Value.type "function") none (Data.func (FuncData.mk (Str.ofString "arg") (Str.ofString "Cells.arg") kA314.1 (FuncBody.stmts kB314.1) kS314.1 3 [] Value.none Value.none Value.none (Value.str (Str.ofString "clausemill.store") 404) none (Value.ref 313) Value.none 0)) (List.toArray []))
 .nil .nil) (.node (Obj.mk Value.none none (Data.fields (List.toArray [])) (List.toArray []))
 .nil .nil)) (.node (Obj.mk (Value.type "code") none (Data.fields (List.toArray [(Value.str (Str.ofString "bind_pair") 496), (Value.str (Str.ofString "Cells.bind_pair") 497), (Value.str (Str.ofString "/claim/cut.py") 498), (Value.int 125 0), (Value.int 3 0), (Value.int 0 0), (Value.int 0 0), (Value.int 3 0), (Value.ref 245), (Value.bool Bool.true), (Value.int 181 0), (Value.ref 246), Value.none, (Value.ref 247), (Value.ref 248), (Value.ref 249), (Value.int 502 0), (Value.int 125 0), (Value.str (Str.ofString "/claim/cut.py") 503)])) (List.toArray []))
 (.node (Obj.mk (Value.type "builtin_function_or_method") none (Data.fields (List.toArray [(Value.builtin "type.__prepare__"), (Value.type "type")])) (List.toArray []))
 .nil .nil) (.node (Obj.mk (Value.type "tuple") none (Data.seq (List.toArray [(Value.str (Str.ofString "self") 855)]) 0) (List.toArray []))
 .nil .nil)))))) (.node (Obj.mk (Value.type "frame") none Data.plain (List.toArray [(some (Value.ref 13)), (some (Value.ref 3)), (some (Value.ref 3)), none, (some (Value.str (Str.ofString "__main__") 164)), none, (some (Value.ref 0))]))
 (.node (Obj.mk (Value.type "tuple") none (Data.seq (List.toArray [(Value.type "Exception")]) 0) (List.toArray []))
 (.node (Obj.mk (Value.type "tuple") none (Data.seq (List.toArray []) 0) (List.toArray []))
 (.node (Obj.mk (Value.type "dict") none (Data.dict (List.toArray [(DictEntry.mk (PyData.keyHash P (Str.ofString "__module__")) (Value.str (Str.ofString "__module__") 264) (Value.str (Str.ofString "clausemill.symbols") 194)), (DictEntry.mk (PyData.keyHash P (Str.ofString "__qualname__")) (Value.str (Str.ofString "__qualname__") 266) (Value.str (Str.ofString "Symbols") 265)), (DictEntry.mk (PyData.keyHash P (Str.ofString "__firstlineno__")) (Value.str (Str.ofString "__firstlineno__") 268) (Value.int 17 267)), (DictEntry.mk (PyData.keyHash P (Str.ofString "__init__")) (Value.str (Str.ofString "__init__") 277) (Value.ref 81)), (DictEntry.mk (PyData.keyHash P (Str.ofString "atom")) (Value.str (Str.ofString "atom") 287) (Value.ref 88)), (DictEntry.mk (PyData.keyHash P (Str.ofString "text")) (Value.str (Str.ofString "text") 295) (Value.ref 95)), (DictEntry.mk (PyData.keyHash P (Str.ofString "functor")) (Value.str (Str.ofString "functor") 307) (Value.ref 102)), (DictEntry.mk (PyData.keyHash P (Str.ofString "func")) (Value.str (Str.ofString "func") 316) (Value.ref 109)), (DictEntry.mk (PyData.keyHash P (Str.ofString "name")) (Value.str (Str.ofString "name") 324) (Value.ref 116)), (DictEntry.mk (PyData.keyHash P (Str.ofString "arity")) (Value.str (Str.ofString "arity") 332) (Value.ref 123)), (DictEntry.mk (PyData.keyHash P (Str.ofString "label")) (Value.str (Str.ofString "label") 340) (Value.ref 130)), (DictEntry.mk (PyData.keyHash P (Str.ofString "count")) (Value.str (Str.ofString "count") 347) (Value.ref 137)), (DictEntry.mk (PyData.keyHash P (Str.ofString "functor_count")) (Value.str (Str.ofString "functor_count") 354) (Value.ref 144)), (DictEntry.mk (PyData.keyHash P (Str.ofString "known")) (Value.str (Str.ofString "known") 363) (Value.ref 151)), (DictEntry.mk (PyData.keyHash P (Str.ofString "__static_attributes__")) (Value.str (Str.ofString "__static_attributes__") 368) (Value.ref 152))]) 15) (List.toArray []))
 (.node (Obj.mk (Value.type "tuple") none (Data.seq (List.toArray []) 0) (List.toArray []))
 (.node (Obj.mk (Value.type "tuple") none (Data.seq (List.toArray []) 0) (List.toArray []))
 (.node (Obj.mk (Value.type "tuple") none (Data.seq (List.toArray []) 0) (List.toArray []))
 .nil .nil) .nil) (.node (Obj.mk (Value.type "code") none (Data.fields (List.toArray [(Value.str (Str.ofString "__init__") 698), (Value.str (Str.ofString "Areas.__init__") 699), (Value.str (Str.ofString "/claim/cut.py") 700), (Value.int 199 0), (Value.int 6 0), (Value.int 0 0), (Value.int 0 0), (Value.int 3 0), (Value.ref 385), (Value.bool Bool.true), (Value.int 181 0), (Value.ref 386), Value.none, (Value.ref 387), (Value.ref 388), (Value.ref 389), (Value.int 707 0), (Value.int 199 0), (Value.str (Str.ofString "/claim/cut.py") 708)])) (List.toArray []))
 .nil .nil)) (.node (Obj.mk (Value.type "tuple") none (Data.seq (List.toArray [(Value.str (Str.ofString "self") 441), (Value.str (Str.ofString "cell") 442), (Value.str (Str.ofString "address") 443)]) 0) (List.toArray []))
 (.node (Obj.mk (Value.type "getset_descriptor") none (Data.fields (List.toArray [(Value.str (Str.ofString "__weakref__") 599), (Value.ref 324), (Value.builtin "ExceptionGroup.__weakref__"), Value.none])) (List.toArray []))
 .nil .nil) (.node (Obj.mk (Value.type "function") none (Data.func (FuncData.mk (Str.ofString "push_environment") (Str.ofString "Areas.push_environment") kA454.1 (FuncBody.stmts kB454.1) kS454.1 3 [] Value.none Value.none Value.none (Value.str (Str.ofString "clausemill.areas") 664) none (Value.ref 453) Value.none 0)) (List.toArray []))
 .nil .nil))) (.node (Obj.mk (Value.type "function") none (Data.func (FuncData.mk (Str.ofString "functor") (Str.ofString "Symbols.functor") kA102.1 (FuncBody.stmts kB102.1) kS102.1 3 [] Value.none Value.none Value.none (Value.str (Str.ofString "clausemill.symbols") 194) none (Value.ref 101) Value.none 0)) (List.toArray []))
 (.node (Obj.mk (Value.type "tuple") none (Data.seq (List.toArray []) 0) (List.toArray []))
 (.node (Obj.mk (Value.type "tuple") none (Data.seq (List.toArray []) 0) (List.toArray []))
 (.node (Obj.mk Value.none none (Data.func (FuncData.mk (Str.ofString "_law_choose") (Str.ofString "_law_choose") kA552.1 (FuncBody.stmts kB552.1) kS552.1 0 [] Value.none Value.none Value.none Value.none none Value.none Value.none 0)) (List.toArray []))
 .nil .nil) .nil) (.node (Obj.mk (Value.type "tuple") none (Data.seq (List.toArray [(Value.str (Str.ofString "self") 745), (Value.str (Str.ofString "c1") 746), (Value.str (Str.ofString "c2") 747)]) 0) (List.toArray []))
 .nil .nil)) (.node (Obj.mk (Value.type "function") none (Data.func (FuncData.mk (Str.ofString "deref") (Str.ofString "Cells.deref") kA230.1 (FuncBody.stmts kB230.1) kS230.1 3 [] Value.none Value.none Value.none (Value.str (Str.ofString "clausemill.store") 404) none (Value.ref 229) Value.none 0)) (List.toArray []))
 (.node (Obj.mk (Value.type "tuple") none (Data.seq (List.toArray []) 0) (List.toArray []))
 .nil .nil) (.node (Obj.mk (Value.type "tuple") none (Data.seq (List.toArray []) 0) (List.toArray []))
 .nil .nil)))) (.node (Obj.mk (Value.type "tuple") none (Data.seq (List.toArray []) 0) (List.toArray []))
 (.node (Obj.mk Value.none none (Data.func (FuncData.mk (Str.ofString "atom") (Str.ofString "Symbols.atom") kA88.1 (FuncBody.stmts kB88.1) kS88.1 0 [] Value.none Value.none Value.none Value.none none Value.none Value.none 0)) (List.toArray []))
 (.node (Obj.mk (Value.type "code") none (Data.fields (List.toArray [(Value.str (Str.ofString "known") 355), (Value.str (Str.ofString "Symbols.known") 356), (Value.str (Str.ofString "/claim/cut.py") 357), (Value.int 69 0), (Value.int 3 0), (Value.int 0 0), (Value.int 0 0), (Value.int 3 0), (Value.ref 145), (Value.bool Bool.true), (Value.int 181 0), (Value.ref 146), Value.none, (Value.ref 147), (Value.ref 148), (Value.ref 149), (Value.int 361 0), (Value.int 69 0), (Value.str (Str.ofString "/claim/cut.py") 362)])) (List.toArray []))
 (.node (Obj.mk (Value.type "code") none (Data.fields (List.toArray [(Value.str (Str.ofString "stack_put") 530), (Value.str (Str.ofString "Cells.stack_put") 531), (Value.str (Str.ofString "/claim/cut.py") 532), (Value.int 143 0), (Value.int 3 0), (Value.int 0 0), (Value.int 0 0), (Value.int 3 0), (Value.ref 273), (Value.bool Bool.true), (Value.int 181 0), (Value.ref 274), Value.none, (Value.ref 275), (Value.ref 276), (Value.ref 277), (Value.int 537 0), (Value.int 143 0), (Value.str (Str.ofString "/claim/cut.py") 538)])) (List.toArray []))
 (.node (Obj.mk (Value.type "type") none (Data.cls (ClassData.mk (Str.ofString "Areas") [(Value.type "object")] [(Value.ref 534), (Value.type "object")] 533 (Str.ofString "Areas") Bool.true [] [] Bool.false none Bool.false)) (List.toArray [none, none, (some (Value.str (Str.ofString "Areas") 684)), (some (Value.str (Str.ofString "Areas") 692)), (some (Value.builtin "object.__new__")), (some (Value.bool Bool.true))]))
 .nil .nil) .nil) (.node (Obj.mk (Value.type "tuple") none (Data.seq (List.toArray []) 0) (List.toArray []))
 .nil .nil)) (.node (Obj.mk Value.none none (Data.func (FuncData.mk (Str.ofString "reserve") (Str.ofString "Cells.reserve") kA216.1 (FuncBody.stmts kB216.1) kS216.1 0 [] Value.none Value.none Value.none Value.none none Value.none Value.none 0)) (List.toArray []))
 (.node (Obj.mk (Value.type "function") none (Data.func (FuncData.mk (Str.ofString "new_struct") (Str.ofString "Store.new_struct") kA342.1 (FuncBody.stmts kB342.1) kS342.1 3 [] Value.none Value.none Value.none (Value.str (Str.ofString "clausemill.store") 404) none (Value.ref 341) Value.none 0)) (List.toArray []))
 .nil .nil) (.node (Obj.mk Value.none none (Data.fields (List.toArray [])) (List.toArray []))
 .nil .nil))) (.node (Obj.mk Value.none none (Data.fields (List.toArray [])) (List.toArray []))
 (.node (Obj.mk (Value.type "builtin_function_or_method") none (Data.fields (List.toArray [(Value.builtin "type.__prepare__"), (Value.type "type")])) (List.toArray []))
 (.node (Obj.mk (Value.type "tuple") none (Data.seq (List.toArray [(Value.str (Str.ofString "self") 575), (Value.str (Str.ofString "cell") 576), (Value.str (Str.ofString "i") 577)]) 0) (List.toArray []))
 (.node (Obj.mk (Value.type "tuple") none (Data.seq (List.toArray []) 0) (List.toArray []))
 .nil .nil) .nil) (.node (Obj.mk Value.none none (Data.func (FuncData.mk (Str.ofString "put") (Str.ofString "Areas.put") kA440.1 (FuncBody.stmts kB440.1) kS440.1 0 [] Value.none Value.none Value.none Value.none none Value.none Value.none 0)) (List.toArray []))
 .nil .nil)) (.node (Obj.mk Value.none none (Data.fields (List.toArray [])) (List.toArray []))
 (.node (Obj.mk (Value.type "type") none (Data.cls (ClassData.mk (Str.ofString "Store") [(Value.ref 324)] [(Value.ref 374), (Value.ref 324), (Value.type "object")] 373 (Str.ofString "Store") Bool.true [] [] Bool.false none Bool.false)) (List.toArray [(some (Value.ref 329)), none, (some (Value.str (Str.ofString "Store") 604)), (some (Value.str (Str.ofString "Store") 612)), (some (Value.builtin "object.__new__")), (some (Value.bool Bool.true))]))
 .nil .nil) (.node (Obj.mk (Value.type "code") none (Data.fields (List.toArray [(Value.str (Str.ofString "restore_choice") 842), (Value.str (Str.ofString "Areas.restore_choice") 843), (Value.str (Str.ofString "/claim/cut.py") 844), (Value.int 302 0), (Value.int 1 0), (Value.int 0 0), (Value.int 0 0), (Value.int 3 0), (Value.ref 497), (Value.bool Bool.true), (Value.int 181 0), (Value.ref 498), Value.none, (Value.ref 499), (Value.ref 500), (Value.ref 501), (Value.int 849 0), (Value.int 302 0), (Value.str (Str.ofString "/claim/cut.py") 850)])) (List.toArray []))
 .nil .nil))))) (.node (Obj.mk (Value.type "dict") none (Data.dict (List.toArray [(DictEntry.mk (PyData.keyHash P (Str.ofString "__module__")) (Value.str (Str.ofString "__module__") 203) (Value.str (Str.ofString "clausemill.symbols") 194)), (DictEntry.mk (PyData.keyHash P (Str.ofString "__firstlineno__")) (Value.str (Str.ofString "__firstlineno__") 207) (Value.int 5 206)), (DictEntry.mk (PyData.keyHash P (Str.ofString "__static_attributes__")) (Value.str (Str.ofString "__static_attributes__") 208) (Value.ref 29)), (DictEntry.mk (PyData.keyHash P (Str.ofString "__weakref__")) (Value.str (Str.ofString "__weakref__") 210) (Value.ref 32)), (DictEntry.mk (PyData.keyHash P (Str.ofString "__doc__")) (Value.str (Str.ofString "__doc__") 211) Value.none)]) 3) (List.toArray []))
 (.node (Obj.mk Value.none none (Data.func (FuncData.mk (Str.ofString "__init__") (Str.ofString "PrologError.__init__") kA48.1 (FuncBody.stmts kB48.1) kS48.1 0 [] Value.none Value.none Value.none Value.none none Value.none Value.none 0)) (List.toArray []))
 (.node (Obj.mk (Value.type "tuple") none (Data.seq (List.toArray []) 0) (List.toArray []))
 (.node (Obj.mk Value.none none (Data.func (FuncData.mk (Str.ofString "functor_count") (Str.ofString "Symbols.functor_count") kA144.1 (FuncBody.stmts kB144.1) kS144.1 0 [] Value.none Value.none Value.none Value.none none Value.none Value.none 0)) (List.toArray []))
 (.node (Obj.mk Value.none none (Data.func (FuncData.mk (Str.ofString "undo_to") (Str.ofString "Cells.undo_to") kA272.1 (FuncBody.stmts kB272.1) kS272.1 0 [] Value.none Value.none Value.none Value.none none Value.none Value.none 0)) (List.toArray []))
 (.node (Obj.mk Value.none none (Data.fields (List.toArray [])) (List.toArray []))
 .nil .nil) .nil) (.node (Obj.mk (Value.type "function") none (Data.func (FuncData.mk (Str.ofString "reset") (Str.ofString "Areas.reset") kA398.1 (FuncBody.stmts kB398.1) kS398.1 3 [] Value.none Value.none Value.none (Value.str (Str.ofString "clausemill.areas") 664) none (Value.ref 397) Value.none 0)) (List.toArray []))
 .nil .nil)) (.node (Obj.mk (Value.type "tuple") none (Data.seq (List.toArray []) 0) (List.toArray []))
 (.node (Obj.mk (Value.type "code") none (Data.fields (List.toArray [(Value.str (Str.ofString "Store") 606), (Value.str (Str.ofString "Store") 607), (Value.str (Str.ofString "/claim/cut.py") 608), (Value.int 171 0), (Value.int 0 0), (Value.int 0 0), (Value.int 0 0), (Value.int 0 0), (Value.ref 332), (Value.bool Bool.false), (Value.int 181 0), (Value.ref 333), Value.none, Value.none, Value.none, Value.none, (Value.int 609 0), (Value.int 171 0), (Value.str (Str.ofString "/claim/cut.py") 610)])) (List.toArray []))
 .nil .nil) (.node (Obj.mk (Value.type "tuple") none (Data.seq (List.toArray []) 0) (List.toArray []))
 .nil .nil))) (.node (Obj.mk (Value.type "tuple") none (Data.seq (List.toArray []) 0) (List.toArray []))
 (.node (Obj.mk Value.none none (Data.fields (List.toArray [])) (List.toArray []))
 (.node (Obj.mk Value.none none (Data.fields (List.toArray [])) (List.toArray []))
 (.node (Obj.mk (Value.type "tuple") none (Data.seq (List.toArray []) 0) (List.toArray []))
 .nil .nil) .nil) (.node (Obj.mk (Value.type "tuple") none (Data.seq (List.toArray []) 0) (List.toArray []))
 .nil .nil)) (.node (Obj.mk (Value.type "tuple") none (Data.seq (List.toArray []) 0) (List.toArray []))
 (.node (Obj.mk Value.none none (Data.fields (List.toArray [])) (List.toArray []))
 .nil .nil) (.node (Obj.mk Value.none none (Data.func (FuncData.mk (Str.ofString "choice_part") (Str.ofString "Areas.choice_part") kA496.1 (FuncBody.stmts kB496.1) kS496.1 0 [] Value.none Value.none Value.none Value.none none Value.none Value.none 0)) (List.toArray []))
 .nil .nil)))) (.node (Obj.mk Value.none none (Data.fields (List.toArray [])) (List.toArray []))
 (.node (Obj.mk (Value.type "code") none (Data.fields (List.toArray [(Value.str (Str.ofString "text") 288), (Value.str (Str.ofString "Symbols.text") 289), (Value.str (Str.ofString "/claim/cut.py") 290), (Value.int 38 0), (Value.int 2 0), (Value.int 0 0), (Value.int 0 0), (Value.int 3 0), (Value.ref 89), (Value.bool Bool.true), (Value.int 181 0), (Value.ref 90), Value.none, (Value.ref 91), (Value.ref 92), (Value.ref 93), (Value.int 293 0), (Value.int 38 0), (Value.str (Str.ofString "/claim/cut.py") 294)])) (List.toArray []))
 (.node (Obj.mk (Value.type "builtin_function_or_method") none (Data.fields (List.toArray [(Value.builtin "object.__init_subclass__"), (Value.ref 154)])) (List.toArray []))
 (.node (Obj.mk (Value.type "function") none (Data.func (FuncData.mk (Str.ofString "is_compound") (Str.ofString "Cells.is_compound") kA286.1 (FuncBody.stmts kB286.1) kS286.1 3 [] Value.none Value.none Value.none (Value.str (Str.ofString "clausemill.store") 404) none (Value.ref 285) Value.none 0)) (List.toArray []))
 (.node (Obj.mk (Value.type "tuple") none (Data.seq (List.toArray []) 0) (List.toArray []))
 .nil .nil) .nil) (.node (Obj.mk Value.none none (Data.fields (List.toArray [])) (List.toArray []))
 .nil .nil)) (.node (Obj.mk (Value.type "code") none (Data.fields (List.toArray [(Value.str (Str.ofString "trim") 463), (Value.str (Str.ofString "Cells.trim") 464), (Value.str (Str.ofString "/claim/cut.py") 465), (Value.int 113 0), (Value.int 2 0), (Value.int 0 0), (Value.int 0 0), (Value.int 3 0), (Value.ref 217), (Value.bool Bool.true), (Value.int 181 0), (Value.ref 218), Value.none, (Value.ref 219), (Value.ref 220), (Value.ref 221), (Value.int 468 0), (Value.int 113 0), (Value.str (Str.ofString "/claim/cut.py") 469)])) (List.toArray []))
 (.node (Obj.mk (Value.type "function") none (Data.func (FuncData.mk (Str.ofString "build_list") (Str.ofString "Store.build_list") kA350.1 (FuncBody.stmts kB350.1) kS350.1 3 [] (Value.ref 343) Value.none Value.none (Value.str (Str.ofString "clausemill.store") 404) none (Value.ref 349) Value.none 0)) (List.toArray []))
 .nil .nil) (.node (Obj.mk (Value.type "tuple") none (Data.seq (List.toArray [(Value.str (Str.ofString "self") 813), (Value.str (Str.ofString "cells") 814), (Value.str (Str.ofString "alternative") 815), (Value.str (Str.ofString "store") 816), (Value.str (Str.ofString "place") 817), (Value.str (Str.ofString "count") 818), (Value.str (Str.ofString "at") 819), (Value.str (Str.ofString "cell") 820)]) 0) (List.toArray []))
 .nil .nil))) (.node (Obj.mk (Value.type "tuple") none (Data.seq (List.toArray [(Value.str (Str.ofString "self") 336), (Value.str (Str.ofString "functor") 337)]) 0) (List.toArray []))
 (.node (Obj.mk Value.none none (Data.fields (List.toArray [])) (List.toArray []))
 (.node (Obj.mk (Value.type "tuple") none (Data.seq (List.toArray []) 0) (List.toArray []))
 .nil .nil) (.node (Obj.mk (Value.type "code") none (Data.fields (List.toArray [(Value.str (Str.ofString "top") 767), (Value.str (Str.ofString "Areas.top") 768), (Value.str (Str.ofString "/claim/cut.py") 769), (Value.int 242 0), (Value.int 1 0), (Value.int 0 0), (Value.int 0 0), (Value.int 3 0), (Value.ref 441), (Value.bool Bool.true), (Value.int 181 0), (Value.ref 442), Value.none, (Value.ref 443), (Value.ref 444), (Value.ref 445), (Value.int 771 0), (Value.int 242 0), (Value.str (Str.ofString "/claim/cut.py") 772)])) (List.toArray []))
 .nil .nil)) (.node (Obj.mk (Value.type "tuple") none (Data.seq (List.toArray [(Value.str (Str.ofString "self") 508), (Value.str (Str.ofString "cell") 509)]) 0) (List.toArray []))
 (.node (Obj.mk (Value.type "code") none (Data.fields (List.toArray [(Value.str (Str.ofString "Areas") 686), (Value.str (Str.ofString "Areas") 687), (Value.str (Str.ofString "/claim/cut.py") 688), (Value.int 197 0), (Value.int 0 0), (Value.int 0 0), (Value.int 0 0), (Value.int 0 0), (Value.ref 380), (Value.bool Bool.false), (Value.int 181 0), (Value.ref 381), Value.none, Value.none, Value.none, Value.none, (Value.int 689 0), (Value.int 197 0), (Value.str (Str.ofString "/claim/cut.py") 690)])) (List.toArray []))
 .nil .nil) (.node (Obj.mk (Value.type "function") none (Data.func (FuncData.mk (Str.ofString "pop_choice") (Str.ofString "Areas.pop_choice") kA510.1 (FuncBody.stmts kB510.1) kS510.1 3 [] Value.none Value.none Value.none (Value.str (Str.ofString "clausemill.areas") 664) none (Value.ref 509) Value.none 0)) (List.toArray []))
 .nil .nil)))))))))
noncomputable def kEnv : Env := { scope := kPw.main.scope, locals := mainNs, globals := mainNs, cells := [], code := .ref 13, frame := some 14 }
noncomputable abbrev kCode : Code := .body (behindTheImports kPw) kEnv
abbrev kP0 : Pos := ⟨0, 0, 0, 0⟩
noncomputable def kSF (w : World) (os : OsState) : SharedT := SharedT.mk (kTreeF w.params) 570 {} #[] {} 966 os
theorem chkR : ∀ (w : World) (os : OsState), segRunT treeTable kPw w 11 (some (Value.ref 6)) 1 7354 (SharedT.mk (kTree w.params) 15 {} #[] {} 187 os) (piecesOf (behindTheImports kPw) kEnv kCode kP0 [topFrame kP0]) = some (.next, kSF w os, kCode, ⟨370, 0, 424, 15⟩) := by
  rw [PySem.W.Fast.te10110043849684766642, PySem.W.Fast.te14364793385576792824]
  intro w os
  kernel_rfl
theorem chkS : ∀ (w : World) (os : OsState), (staticsOk (importedModules kPw.main.body) (boot_heap w.params) (kSF w os).abs.heap && namesBound kPw (kSF w os).abs.heap && gensDone (kSF w os).abs && laidKept (boot_heap w.params) (kSF w os).abs.heap) = true := by
  rw [PySem.W.Fast.te5923862056798008813]
  intro w os
  kernel_rfl
theorem chkO : ∀ (w : World) (os : OsState), openSeen kQ kLoose (importedModules kPw.main.body) kXt true (kSF w os).abs = openGood kQ kLoose := by
  rw [PySem.W.Fast.te5923862056798008813, PySem.W.Fast.te4187177175401517315]
  intro w os
  kernel_rfl
theorem chkK : ∀ (w : World) (os : OsState), List.map (kSF w os).abs.heap.get? kAs = List.map (fun p => some p.2) (kK w.params) := by
  intro w os
  kernel_rfl
theorem chk : ∃ f : World → OsState → SharedT, ∀ (w : World) (os : OsState), segRunT treeTable kPw w 11 (some (Value.ref 6)) 1 7354 (SharedT.mk (kTree w.params) 15 {} #[] {} 187 os) (piecesOf (behindTheImports kPw) kEnv kCode kP0 [topFrame kP0]) = some (.next, f w os, kCode, ⟨370, 0, 424, 15⟩) ∧
    (staticsOk (importedModules kPw.main.body) (boot_heap w.params) (f w os).abs.heap && namesBound kPw (f w os).abs.heap && gensDone (f w os).abs && laidKept (boot_heap w.params) (f w os).abs.heap) = true ∧
    openSeen kQ kLoose (importedModules kPw.main.body) kXt true (f w os).abs = openGood kQ kLoose ∧ List.map (f w os).abs.heap.get? kAs = List.map (fun p => some p.2) (kK w.params) :=
  ⟨kSF, fun w os => ⟨chkR w os, chkS w os, chkO w os, chkK w os⟩⟩


set_option maxHeartbeats 8000000
theorem kOpen (w : World) : Option.map (fun s => (s.heap, s.gens, s.drawn, s.toks)) (fencedOpening treeTable kPw w 7369) = some (boot_heap w.params, #[], boot_drawn, boot_toks) :=
  boot_open (by kernel_rfl) (by kernel_rfl) (fun s => by kernel_rfl) w
theorem kPre (w : World) (os : OsState) : topGo treeTable kPw w 11 (some (.ref 6)) 12 ⟨boot_heap w.params, #[], boot_drawn, boot_toks, os⟩ (topStub kPw) = some (⟨kHeap w.params, #[], {}, 187, os⟩, ⟨denote treeTable kCode, kCode, kP0, [topFrame kP0]⟩) := by
  kernel_rfl
theorem kBlk (w : World) (os : OsState) : segRun treeTable kPw w 11 (some (.ref 6)) 1 1 ⟨kHeap w.params, #[], {}, 187, os⟩ (blockOf (behindTheImports kPw) kEnv kCode kP0 [topFrame kP0]) = some (.next, (SharedT.mk (kTree w.params) 15 {} #[] {} 187 os).abs, kCode, kP0) := by
  kernel_rfl
theorem kFin (w : World) (s : Shared) (p : Pos) : topRun treeTable kPw w 11 (some (.ref 6)) 2 s (restOf [] kEnv kCode p [topFrame kP0]) = some s := by
  kernel_rfl
theorem kSize (w : World) : ((boot_heap w.params).isNs mainGlobals && (#[] : Array GenState).size == 0, (boot_heap w.params).objs.size, (boot_heap w.params).nsMap mainGlobals (Str.ofString "__annotations__")) = (true, 11, some (Value.ref 6)) := by
  kernel_rfl
theorem from_of {tb : String → Option Builtin} {p : Program} {w : World} {N m : Nat} {ann : Option Value} {s₀ s₁ : Shared} (z1 : (s₀.heap.isNs mainGlobals && s₀.gens.size == 0) = true) (z2 : s₀.heap.objs.size = m) (z3 : s₀.heap.nsMap mainGlobals (Str.ofString "__annotations__") = ann)
    (r : topRun tb p w m ann N s₀ (topStub p) = some s₁) (c : (staticsOk (importedModules p.main.body) s₀.heap s₁.heap && namesBound p s₁.heap && gensDone s₁ && laidKept s₀.heap s₁.heap) = true) : topFrom tb p w N s₀ = some s₁ := by
  subst z2; subst z3
  unfold topFrom
  rw [z1]
  dsimp only
  rw [r, Option.bind_some, c]
theorem ends_of {α β : Type} {tb : String → Option Builtin} {p : Program} {w : World} {N : Nat} {s₀ s₁ : Shared} {f : Shared → α} {g : Shared → β} {a : α} {b : β} (e : fencedOpening tb p w N = some s₀) (t : topFrom tb p w N s₀ = some s₁) (h1 : f s₁ = a) (h2 : g s₁ = b) :
    (openEnds tb p w N).map (fun s => (f s, g s)) = some (a, b) := by
  unfold openEnds
  rw [e, Option.bind_some, t, Option.map_some, h1, h2]
theorem run_of {tb : String → Option Builtin} {p : Program} {w : World} {m : Nat} {ann : Option Value} {s₀ s1 : Shared} {S0 S : SharedT} {l : List Stmt} {env : Env} {q pos p' : Pos} {stub : Thread} {n1 n2 n3 n4 : Nat}
    (pre : topGo tb p w m ann n1 s₀ stub = some (s1, ⟨denote tb (.body l env), .body l env, pos, [topFrame q]⟩)) (blk : segRun tb p w m ann 1 n2 s1 (blockOf l env (.body l env) pos [topFrame q]) = some (.next, S0.abs, .body l env, pos))
    (seg : segRunT tb p w m ann 1 n3 S0 (piecesOf l env (.body l env) pos [topFrame q]) = some (.next, S, .body l env, p')) (fin : ∀ s, topRun tb p w m ann n4 s (restOf [] env (.body l env) p' [topFrame q]) = some s) :
    topRun tb p w m ann (n1 + (n2 + (n3 + n4))) s₀ stub = some S.abs := by
  have app := piece_app (rest := []) (l := l) (segRun_of seg) (fin S.abs)
  rw [List.append_nil] at app
  exact go_top pre (piece_block blk app)
theorem kLeft : LeftO PySem.Challenge.rw_ok0027_01.prog kQ kLoose kXt (fun s => List.map s.heap.get? kAs) (fun w => List.map (fun p => some p.2) (kK w.params)) 7369 := by
  intro w
  obtain ⟨f, hf⟩ := chk
  obtain ⟨⟨h, gs, d, k, os⟩, e, e'⟩ := Option.map_eq_some_iff.mp (kOpen w)
  obtain ⟨rfl, rfl, rfl, rfl⟩ : h = boot_heap w.params ∧ gs = #[] ∧ d = boot_drawn ∧ k = boot_toks := by simpa using e'
  obtain ⟨hr, c5, c6, c8⟩ := hf w os
  obtain ⟨z1, z2, z3⟩ : _ ∧ _ ∧ _ := by simpa only [Prod.mk.injEq] using kSize w
  exact ends_of (p := kPw) e (from_of z1 z2 z3 (run_of (kPre w os) (kBlk w os) hr (fun s => kFin w s ⟨370, 0, 424, 15⟩)) c5) c6 c8
noncomputable abbrev kD : DefRec := { name := Str.ofString "law", params := kA569.1, body := kB569.1, scope := kS569.1, pos := ⟨370, 0, 424, 15⟩ }
noncomputable abbrev kH : Hook := kHook kK kAs (fun _ => by kernel_rfl)
theorem kSaid : PySem.Challenge.rw_ok0027_01.wellSaid = true := by
  rw [PySem.W.Fast.te9446332074065402090]
  kernel_rfl
theorem kWit : PySem.Challenge.rw_ok0027_01.row.promised := by w_witness2
theorem kHd (walk : WalkO kQ kLoose (XL kQ kLv) kH.says PySem.Challenge.rw_ok0027_01.row.toRowW kD [] (fun f vs => PySem.call f vs)) : PySem.Challenge.rw_ok0027_01.Holds := by
  refine holds_law kSaid fun said => ?_
  refine holds_open (q := kQ) (loose := kLoose) (Xt := kXt) (XP := XL kQ kLv) (Yf := kH.obs) (Ya := kH.val) (YP := kH.says) (N := 7369) kLeft kH.of kH.keeps (fun s e => xl_of s (Bool.and_eq_true_iff.mp e).1) XL.keeps ?h1 ?h2 ?h3 (fun s e => recFacts_of (Bool.and_eq_true_iff.mp e).2) ?h4 ?h5 ?h6 ?h7 ?hw walk
  case h1 => kernel_rfl
  case h2 => kernel_rfl
  case h3 => kernel_rfl
  case h4 => kernel_rfl
  case h5 => exact said
  case h6 => kernel_rfl
  case h7 => exact ⟨rfl, rfl, rfl, rfl, rfl, by decide +kernel⟩
  case hw => exact kWit
set_option maxRecDepth 100000
theorem kFill (P : Params) : PySem.Challenge.rw_ok0027_01 = PySem.Challenge.rw_ok0027_01 ∧ Mine.kK P = Mine.kK P := by
  k_fill
  exact ⟨rfl, rfl⟩
set_option compiler.extract_closed false
-- A0
section

theorem fr_deeper {A : Around} {e : Env} {l : List Env} (h : A.frames = some l) : (A.deeper e).frames = some (e :: l) := by simp [Around.deeper, h]
theorem units_mk (A : Around) (C : Addr) (vals : List Value) (kw : List (Str × Value)) : (A.under (.builtin "type.__call__" ⟨.ref C :: vals, kw⟩)).units = A.units + 1 := rfl
def Hold (p : Prop) : Prop := p
theorem Hold.out {p : Prop} (h : Hold p) : p := h
theorem Hold.mk {p : Prop} (h : p) : Hold p := h
def Off (l : List Addr) (tl : List (Addr × Obj)) : Prop := ∀ p ∈ tl, ∀ q ∈ l, p.1 ≠ q
theorem Off.tl {l : List Addr} {tl : List (Addr × Obj)} {d : Addr} (h : Off l tl) (hd : d ∈ l) : ∀ p ∈ tl, p.1 ≠ d := fun p hp => h p hp d hd
structure Geo (rows md mm sd st hp sk tr xl : Addr) (tl : List (Addr × Obj)) : Prop where
  o1 : @LT.lt Nat _ rows md
  o2 : @LT.lt Nat _ md mm
  o3 : @LT.lt Nat _ mm sd
  o4 : @LT.lt Nat _ sd st
  o5 : @LT.lt Nat _ st hp
  o6 : @LT.lt Nat _ hp sk
  o7 : @LT.lt Nat _ sk tr
  o8 : @LT.lt Nat _ tr xl
  off : Off [rows, md, mm, sd, st, hp, sk, tr, xl] tl
abbrev en (w : World) (n : Str) (t : Tok) (v : Value) : DictEntry := ⟨PyData.keyHash w.params n, .str n t, v⟩
abbrev mD (w : World) (kt : Nat → Tok) (sy rows st xl ro ba : Addr) (t1 t2 t3 tb0 tmd tms : Tok) (cp : Int) (tcp : Tok) (e : Int) (te : Tok) (b : Int) (tb : Tok) : List DictEntry :=
  [en w "symbols" (kt 0) (.ref sy), en w "code" (kt 1) (.ref rows), en w "max_heap" (kt 2) (.int 100000 t1), en w "occurs" (kt 3) (.bool true), en w "max_bits" (kt 4) (.int 4096 t2),
   en w "store" (kt 5) (.ref st), en w "x" (kt 6) (.ref xl), en w "p" (kt 7) (.int 0 t3), en w "cp" (kt 8) (.int cp tcp), en w "e" (kt 9) (.int e te), en w "b" (kt 10) (.int b tb), en w "b0" (kt 11) (.int (-1) tb0),
   en w "mode" (kt 12) (.str "read" tmd), en w "s" (kt 13) (.int 0 tms), en w "guard" (kt 14) (.ref 180), en w "roots" (kt 15) (.ref ro), en w "bags" (kt 16) (.ref ba), en w "collect_wanted" (kt 17) (.bool false)]
abbrev sD (w : World) (ks : Nat → Tok) (sy hp sk tr : Addr) (t1 : Tok) (hbv : Int) (thb : Tok) (bbv : Int) (tbb : Tok) : List DictEntry :=
  [en w "symbols" (ks 0) (.ref sy), en w "max_heap" (ks 1) (.int 100000 t1), en w "heap" (ks 2) (.ref hp), en w "stack" (ks 3) (.ref sk), en w "trail" (ks 4) (.ref tr), en w "hb" (ks 5) (.int hbv thb), en w "bb" (ks 6) (.int bbv tbb)]
abbrev tupOf (l : List Value) (n : Nat) : Obj := { cls := .type "tuple", data := .seq l.toArray n }
def At (l : List Value) (k : Int) (v : Value) : Prop := 0 ≤ k ∧ k < 2 ^ 60 ∧ l[k.toNat]? = some v
theorem At.cast {l : List Value} {k k' : Int} {v : Value} (h : At l k v) (e : k' = k) : At l k' v := e ▸ h
theorem Geo.cons {rows md mm sd st hp sk tr xl a : Addr} {o : Obj} {tl : List (Addr × Obj)} (G : Geo rows md mm sd st hp sk tr xl tl) (h : @Ne Nat a rows ∧ @Ne Nat a md ∧ @Ne Nat a mm ∧ @Ne Nat a sd ∧ @Ne Nat a st ∧ @Ne Nat a hp ∧ @Ne Nat a sk ∧ @Ne Nat a tr ∧ @Ne Nat a xl) : Geo rows md mm sd st hp sk tr xl ((a, o) :: tl) := by
  refine { G with off := fun p hp q hq => ?_ }
  rcases List.mem_cons.mp hp with rfl | hp
  · obtain ⟨h1, h2, h3, h4, h5, h6, h7, h8, h9⟩ := h
    simp only [List.mem_cons, List.not_mem_nil, or_false] at hq
    rcases hq with rfl | rfl | rfl | rfl | rfl | rfl | rfl | rfl | rfl <;> assumption
  · exact G.off p hp q hq
theorem Geo.consT {rows md mm sd st hp sk tr xl a : Addr} {o : Obj} {tl : List (Addr × Obj)} (G : Geo rows md mm sd st hp sk tr xl tl) (h9 : @LT.lt Nat _ xl a) : Geo rows md mm sd st hp sk tr xl ((a, o) :: tl) :=
  have h8 := Nat.lt_trans G.o8 h9
  have h7 := Nat.lt_trans G.o7 h8
  have h6 := Nat.lt_trans G.o6 h7
  have h5 := Nat.lt_trans G.o5 h6
  have h4 := Nat.lt_trans G.o4 h5
  have h3 := Nat.lt_trans G.o3 h4
  have h2 := Nat.lt_trans G.o2 h3
  have h1 := Nat.lt_trans G.o1 h2
  G.cons ⟨Nat.ne_of_gt h1, Nat.ne_of_gt h2, Nat.ne_of_gt h3, Nat.ne_of_gt h4, Nat.ne_of_gt h5, Nat.ne_of_gt h6, Nat.ne_of_gt h7, Nat.ne_of_gt h8, Nat.ne_of_gt h9⟩
theorem Geo.consB {rows md mm sd st hp sk tr xl a : Addr} {o : Obj} {tl : List (Addr × Obj)} (G : Geo rows md mm sd st hp sk tr xl tl) (h1 : @LT.lt Nat _ a rows) : Geo rows md mm sd st hp sk tr xl ((a, o) :: tl) :=
  have h2 := Nat.lt_trans h1 G.o1
  have h3 := Nat.lt_trans h2 G.o2
  have h4 := Nat.lt_trans h3 G.o3
  have h5 := Nat.lt_trans h4 G.o4
  have h6 := Nat.lt_trans h5 G.o5
  have h7 := Nat.lt_trans h6 G.o6
  have h8 := Nat.lt_trans h7 G.o7
  have h9 := Nat.lt_trans h8 G.o8
  G.cons ⟨Nat.ne_of_lt h1, Nat.ne_of_lt h2, Nat.ne_of_lt h3, Nat.ne_of_lt h4, Nat.ne_of_lt h5, Nat.ne_of_lt h6, Nat.ne_of_lt h7, Nat.ne_of_lt h8, Nat.ne_of_lt h9⟩
theorem ltc {a x d : Nat} {R : Prop} (h : x < d ∧ R) (k : x < d ∧ R → a < d) : a < d := k h
def Lt2 (a b d : Nat) : Prop := a < d ∧ b < d
def Lt3 (a b c d : Nat) : Prop := a < d ∧ Lt2 b c d
def Lt4 (a b c e d : Nat) : Prop := a < d ∧ Lt3 b c e d
def Lt5 (a b c e f d : Nat) : Prop := a < d ∧ Lt4 b c e f d
def Lt6 (a b c e f g d : Nat) : Prop := a < d ∧ Lt5 b c e f g d
def Lt7 (a b c e f g i d : Nat) : Prop := a < d ∧ Lt6 b c e f g i d
def Lt8 (a b c e f g i j d : Nat) : Prop := a < d ∧ Lt7 b c e f g i j d
theorem Lt3.up {a b c d : Nat} (h : Lt2 a b c) (k : c < d) : Lt3 a b c d := ⟨Nat.lt_trans h.1 k, Nat.lt_trans h.2 k, k⟩
theorem Lt4.up {a b c e d : Nat} (h : Lt3 a b c e) (k : e < d) : Lt4 a b c e d := ⟨Nat.lt_trans h.1 k, Lt3.up h.2 k⟩
theorem Lt5.up {a b c e f d : Nat} (h : Lt4 a b c e f) (k : f < d) : Lt5 a b c e f d := ⟨Nat.lt_trans h.1 k, Lt4.up h.2 k⟩
theorem Lt6.up {a b c e f g d : Nat} (h : Lt5 a b c e f g) (k : g < d) : Lt6 a b c e f g d := ⟨Nat.lt_trans h.1 k, Lt5.up h.2 k⟩
theorem Lt7.up {a b c e f g i d : Nat} (h : Lt6 a b c e f g i) (k : i < d) : Lt7 a b c e f g i d := ⟨Nat.lt_trans h.1 k, Lt6.up h.2 k⟩
theorem Lt8.up {a b c e f g i j d : Nat} (h : Lt7 a b c e f g i j) (k : j < d) : Lt8 a b c e f g i j d := ⟨Nat.lt_trans h.1 k, Lt7.up h.2 k⟩
theorem Geo.lts {rows md mm sd st hp sk tr xl : Addr} {tl : List (Addr × Obj)} (G : Geo rows md mm sd st hp sk tr xl tl) : Lt2 rows md mm ∧ Lt3 rows md mm sd ∧ Lt4 rows md mm sd st ∧ Lt5 rows md mm sd st hp ∧ Lt6 rows md mm sd st hp sk ∧ Lt7 rows md mm sd st hp sk tr ∧ Lt8 rows md mm sd st hp sk tr xl :=
  have g2 : Lt2 rows md mm := ⟨Nat.lt_trans G.o1 G.o2, G.o2⟩
  have g3 := Lt3.up g2 G.o3
  have g4 := Lt4.up g3 G.o4
  have g5 := Lt5.up g4 G.o5
  have g6 := Lt6.up g5 G.o6
  have g7 := Lt7.up g6 G.o7
  ⟨g2, g3, g4, g5, g6, g7, Lt8.up g7 G.o8⟩
theorem Geo.consN {rows md mm sd st hp sk tr xl a : Addr} {o : Obj} {tl : List (Addr × Obj)} {P : Prop} (G : Geo rows md mm sd st hp sk tr xl tl) (h : @Ne Nat mm a ∧ @Ne Nat md a ∧ @Ne Nat st a ∧ @Ne Nat sd a ∧ @Ne Nat sk a ∧ @Ne Nat hp a ∧ @Ne Nat tr a ∧ @Ne Nat xl a ∧ @Ne Nat rows a ∧ P) : Geo rows md mm sd st hp sk tr xl ((a, o) :: tl) :=
  have ⟨h1, h2, h3, h4, h5, h6, h7, h8, h9, _⟩ := h
  G.cons ⟨Ne.symm h9, Ne.symm h2, Ne.symm h1, Ne.symm h4, Ne.symm h3, Ne.symm h6, Ne.symm h5, Ne.symm h7, Ne.symm h8⟩
theorem room0 {a b c : Nat} (h : a ≤ b) (e : Nat.ble b c = true) : a ≤ c := Nat.le_trans h (Nat.le_of_ble_eq_true e)
theorem room {a b c k : Nat} (h : a ≤ b) (e : Nat.ble (b + k) c = true) : a + k ≤ c := Nat.le_trans (Nat.add_le_add_right h k) (Nat.le_of_ble_eq_true e)
theorem roomL0 {a b c : Nat} (h : a ≤ b) (e : Nat.ble (b + 1) c = true) : a < c := Nat.lt_of_lt_of_le (Nat.lt_succ_of_le h) (Nat.le_of_ble_eq_true e)
theorem roomL {a b c k : Nat} (h : a ≤ b) (e : Nat.ble (b + k + 1) c = true) : a + k < c := Nat.lt_of_lt_of_le (Nat.lt_succ_of_le (Nat.add_le_add_right h k)) (Nat.le_of_ble_eq_true e)
theorem News.swapG {h₀ h : Heap} {L : Addr} (G X : List (Addr × Obj)) {tl : List (Addr × Obj)} (N : News h₀ L h (G ++ (X ++ tl))) : News h₀ L h (X ++ (G ++ tl)) := fun p hp => N p (by
  rcases List.mem_append.mp hp with h | h
  · exact List.mem_append_right _ (List.mem_append_left _ h)
  · rcases List.mem_append.mp h with h | h
    · exact List.mem_append_left _ h
    · exact List.mem_append_right _ (List.mem_append_right _ h))
theorem News.mv1 {h₀ h : Heap} {L : Addr} {t a1 a2 a3 a4 a5 a6 a7 a8 a9 : Addr × Obj} {tl : List (Addr × Obj)} (N : News h₀ L h (t :: a1 :: a2 :: a3 :: a4 :: a5 :: a6 :: a7 :: a8 :: a9 :: tl)) : News h₀ L h (a1 :: a2 :: a3 :: a4 :: a5 :: a6 :: a7 :: a8 :: a9 :: t :: tl) :=
  News.swapG [t] [a1, a2, a3, a4, a5, a6, a7, a8, a9] N
theorem News.pick {h₀ h : Heap} {L : Addr} {tl : List (Addr × Obj)} (src dst : List (Addr × Obj)) (is : List Nat) (N : News h₀ L h (src ++ tl)) (e : is.map (fun i => src[i]?) = dst.map some) : News h₀ L h (dst ++ tl) := fun p hp => N p (by
  rcases List.mem_append.mp hp with h | h
  · have h1 : some p ∈ dst.map some := List.mem_map.mpr ⟨p, h, rfl⟩
    rw [← e] at h1
    obtain ⟨i, _, hi⟩ := List.mem_map.mp h1
    exact List.mem_append_left _ (List.mem_of_getElem? hi)
  · exact List.mem_append_right _ h)
theorem News.filtI {h₀ h : Heap} {L I : Addr} {it : Obj} (X : List (Addr × Obj)) {tl : List (Addr × Obj)} (N : News h₀ L h (X ++ tl)) (hI : (I, it) ∈ tl) : News h₀ L h ((I, it) :: (X ++ tl.filter fun p => decide (p.1 ≠ I))) := fun p hp => N p (by
  rcases List.mem_cons.mp hp with rfl | h
  · exact List.mem_append_right _ hI
  · rcases List.mem_append.mp h with h | h
    · exact List.mem_append_left _ h
    · exact List.mem_append_right _ (List.mem_filter.mp h).1)
theorem neCons {I x : Addr} {o : Obj} {l : List (Addr × Obj)} (h : @Ne Nat x I) (t : ∀ p ∈ l, p.1 ≠ I) : ∀ p ∈ (x, o) :: l, p.1 ≠ I := fun p hp => by
  rcases List.mem_cons.mp hp with rfl | hp
  · exact h
  · exact t p hp
theorem neFilt {I : Addr} {l : List (Addr × Obj)} : ∀ p ∈ l.filter fun p => decide (p.1 ≠ I), p.1 ≠ I := fun _ hp => of_decide_eq_true (List.mem_filter.mp hp).2
theorem len_step {a b c : Nat} (h : a ≤ b + 1) (k : b ≤ c - 1) (e : Nat.ble 1 c = true) : a ≤ c := by
  have := Nat.le_of_ble_eq_true e
  omega
theorem l1_succ {a i : Nat} (h : a ≤ 11 * i) : a ≤ 11 * (i + 1) := by omega
theorem l6_succ {a i : Nat} (h : 1 ≤ a ∧ a ≤ 1 + 3 * i) : 1 ≤ a ∧ a ≤ 1 + 3 * (i + 1) := by omega
theorem mem_tl9 {x a1 a2 a3 a4 a5 a6 a7 a8 a9 : Addr × Obj} {tl : List (Addr × Obj)} (h : x ∈ tl) : x ∈ (a1 :: a2 :: a3 :: a4 :: a5 :: a6 :: a7 :: a8 :: a9 :: tl) := by
  exact .tail _ (.tail _ (.tail _ (.tail _ (.tail _ (.tail _ (.tail _ (.tail _ (.tail _ h))))))))
def putS (l : List Value) (i : Int) (v : Value) : List Value := if i.toNat < l.length then l.set i.toNat v else l ++ [v]
def putL (l : List Value) (i : Int) : List Value → List Value
  | [] => l
  | v :: vs => putL (putS l i v) (i + 1) vs
theorem putS_len {l : List Value} {i : Int} {v : Value} (h0 : 0 ≤ i) (h : i ≤ l.length) : i + 1 ≤ (putS l i v).length ∧ l.length ≤ (putS l i v).length ∧ (putS l i v).length ≤ l.length + 1 := by
  unfold putS; split <;> simp <;> omega
def TopIs (e b cp : Int) (stk rws : List Value) (tl : List (Addr × Obj)) (v : Int) : Prop :=
  (b < e ∧ ∃ r z tz tc t0 n, At rws (cp - 1) (.ref r) ∧ (r, tupOf [.str "call" tc, .int 0 t0, .int z tz] n) ∈ tl ∧ v = e + 2 + z) ∨ (e ≤ b ∧ 0 ≤ b ∧ ∃ c tc, At stk b (.int c tc) ∧ v = b + c + 8) ∨ (e ≤ b ∧ b < 0 ∧ v = 0)
theorem putS_lt {l : List Value} {i : Int} {v : Value} (h : i.toNat < l.length) : putS l i v = l.set i.toNat v := if_pos h
theorem putS_ge {l : List Value} {i : Int} {v : Value} (h : ¬ i.toNat < l.length) : putS l i v = l ++ [v] := if_neg h
section
variable {prog : Program} {w : World} {A : Around} {E : Value → Shared → Prop} {s : Shared} {h₀ : Heap} {L D : Addr} {m : Str → Option Value} {news news' : List (Addr × Obj)} {vs : List Value} {n : Nat} {k : Int} {t u : Tok} {v : Value}
theorem my_sub {value slice : PySem.Expr} {Q : Value → Shared → Prop} (N : News h₀ L s.heap news) (hm : (D, W.listOf vs.toArray n) ∈ news) (hx : At vs k v) (h : Q v s)
    (hs : subscripted slice false (.ref D) (.int k u) = operate [.ref D, .int k u] (getItem (.ref D) (.int k u)) := by with_unfolding_all rfl) (hg : ∀ r, letTemporaryGo value (.ref D) r = pure () := by intro _; with_unfolding_all rfl) :
    wpAny (model prog w) A (subscriptTail value slice (.ref D) (.int k u)) Q E s :=
  item_listL ⟨_, (N _ hm).1, rfl, n, rfl⟩ hx.1 (Int.lt_of_lt_of_le hx.2.1 (by decide)) hx.2.2 h hs hg
theorem my_set {Q : Unit → Shared → Prop} (F : Fr h₀ L s.heap m) (N : News h₀ L s.heap news) (U : Upd D (W.listOf vs.toArray n) (W.listOf (vs.set k.toNat v).toArray n) news news') (h0 : 0 ≤ k) (h1 : k < vs.length) (hfit : k < 2 ^ 63)
    (h : ∀ h', Fr h₀ L h' m → News h₀ L h' news' → Q () { s with heap := h' }) :
    wpAny (model prog w) A (setItem (.ref D) (.int k t) v) Q E s := by
  obtain ⟨pre, post, rfl, rfl, a, b⟩ := U.split
  have z := N (D, W.listOf vs.toArray n) (List.mem_append.mpr (.inr (.head _)))
  have hs : vs.toArray.size = vs.length := List.size_toArray ..
  refine ki_setAt z.1 h0 hfit (by omega) (h _ (F.change (Heap.SameBut.update ..) z.2.1 z.2.2) (ki_turn _ N a b ?_ ?_))
  · show vs.toArray.setIfInBounds k.toNat v = (vs.set k.toNat v).toArray
    apply Array.toList_inj.mp
    simp
  · simp
theorem my_tup {l : List Value} {j : Nat} {x : Value} {value slice : PySem.Expr} {Q : Value → Shared → Prop} (N : News h₀ L s.heap news) (hm : (D, tupOf l n) ∈ news) (hlo : -(2 ^ 63) ≤ k) (hhi : k < 2 ^ 63) (hj : seqIndex? k l.length = some j) (hx : l[j]? = some x) (h : Q x s)
    (hs : subscripted slice false (.ref D) (.int k u) = operate [.ref D, .int k u] (getItem (.ref D) (.int k u)) := by with_unfolding_all rfl) (hg : ∀ r, letTemporaryGo value (.ref D) r = pure () := by intro _; with_unfolding_all rfl) :
    wpAny (model prog w) A (subscriptTail value slice (.ref D) (.int k u)) Q E s :=
  item_tupleL ⟨_, (N _ hm).1, rfl, n, rfl⟩ hlo hhi hj hx h hs hg
theorem my_len {Q : Value → Shared → Prop} (N : News h₀ L s.heap news) (hm : (D, W.listOf vs.toArray n) ∈ news) (hz : vs.length ≤ 1000000) (h : ∀ t, Q (.int (vs.length : Int) t) { s with toks := s.toks + 1 + 1 }) :
    wpAny (model prog w) A (call (.builtin "len") [.ref D]) Q E s := by
  have e : ((vs.toArray.size : Nat) : Int) = (vs.length : Int) := by rw [List.size_toArray]
  refine len_list (items := vs.toArray) ⟨_, (N _ hm).1, rfl, n, rfl⟩ (by rw [e]; omega) ?_
  rw [e]; exact h _
theorem my_app {Q : Value → Shared → Prop} (F : Fr h₀ L s.heap m) (N : News h₀ L s.heap news) (U : Upd D (W.listOf vs.toArray n) (W.listOf (vs ++ [v]).toArray (n + 1)) news news') (hz : vs.length ≤ 1000000)
    (h : ∀ h', Fr h₀ L h' m → News h₀ L h' news' → Q .none { s with heap := h' }) : wpAny (model prog w) A (call (.builtin "list.append") [.ref D, v]) Q E s := by
  have e : (vs ++ [v]).toArray = vs.toArray.push v := by simp
  rw [e] at U
  exact append_K (hsz := by rw [List.size_toArray, sizeLine_eq]; omega) F N U h
end
end
-- A0d
section

theorem del_take {sel : Nat → Bool} {n : Nat} : ∀ (xs : List Value) (j : Nat), (∀ k, k < j + xs.length → sel k = decide (n ≤ k)) → (xs.zipIdx j).filterMap (fun p => if sel p.2 = true then none else some p.1) = xs.take (n - j)
  | [], j, _ => by simp
  | x :: xs, j, h => by
    have ih := del_take xs (j + 1) (fun k hk => h k (by simp only [List.length_cons]; omega))
    rw [List.zipIdx_cons, List.filterMap_cons]
    have hj := h j (by simp only [List.length_cons]; omega)
    by_cases e : n ≤ j
    · have e1 : n - j = 0 := by omega
      have e2 : n - (j + 1) = 0 := by omega
      rw [e2, List.take_zero] at ih
      simp only [hj, decide_eq_true e, if_true, e1, List.take_zero]
      exact ih
    · have e2 : n - j = (n - (j + 1)) + 1 := by omega
      simp only [hj, e, decide_false, Bool.false_eq_true, if_false]
      rw [e2, List.take_succ_cons, ih]
theorem bounds_from {i : Int} {n : Nat} (h0 : 0 ≤ i) (hi : i ≤ n) : sliceBounds (some i) none none n = (i, (n : Int), 1) := by
  unfold sliceBounds
  have h1 : ¬ i < 0 := by omega
  simp [h1]
  omega
section
variable {prog : Program} {w : World} {A : Around} {E : Value → Shared → Prop} {s : Shared} {D sl : Addr} {vs : List Value} {n : Nat} {i : Int} {ti : Tok}
theorem my_del {Q : Unit → Shared → Prop} (ho : s.heap.get? D = some (W.listOf vs.toArray n)) (hs : s.heap.IsSliceOf sl (.int i ti) .none .none) (h0 : 0 ≤ i) (hi : i ≤ vs.length) (hz : vs.length ≤ 1000000)
    (h : ∀ h' n', Heap.SameBut D s.heap h' → h'.get? D = some (W.listOf (vs.take i.toNat).toArray n') → Q () { s with heap := h' }) : wpAny (model prog w) A (delItem (.ref D) (.ref sl)) Q E s := by
  obtain ⟨os, hos, hcs, hds⟩ := id hs
  have hTs : s.TypeIs (.ref sl) "slice" := ⟨os, hos, hcs⟩
  have hT : s.TypeIs (.ref D) "list" := ⟨_, ho, rfl⟩
  have hsz : vs.toArray.size = vs.length := List.size_toArray ..
  have hz1 : vs.toArray.size ≤ sizeLine := by rw [hsz, sizeLine_eq]; omega
  refine wpAny_delItem_slot hT (by decide) F.slot_list_delitem (wpAny_call_entry F.slot_list_delitem hT F.entry_list_delitem ?_ (F.args_list_delitem_2 _ _))
  show wpAny _ _ (Builtin.List.listSubscript? (.ref sl) >>= _) _ _ s
  refine wpAny_bind ?_
  unfold Builtin.List.listSubscript?
  refine wpAny_bind (wpAny_specialOf hTs slice_no_index ?_)
  simp only [Option.isNone_none, if_true]
  refine wpAny_pure ?_
  show wpAny _ _ (typeOf (.ref sl) >>= _) _ _ s
  refine wpAny_bind (wpAny_typeOf hTs ?_)
  rw [if_neg (by decide)]
  rw [listSliceParts_eq]
  refine wpAny_bind (wpAny_bind (wpAny_field hos hds (x := .none) rfl (wpAny_bind (wpAny_listPart .none ?_))))
  rw [if_neg (by decide)]
  refine wpAny_bind (wpAny_field hos hds (x := .int i ti) rfl (wpAny_bind (wpAny_listPart (.int i ti) ?_)))
  refine wpAny_bind (wpAny_field hos hds (x := .none) rfl (wpAny_bind (wpAny_listPart .none (wpAny_pure ?_))))
  refine wpAny_bind (m := Builtin.List.listItems (.ref D)) ?_
  unfold Builtin.List.listItems
  refine wpAny_bind (wpAny_seqItems ho rfl (wpAny_pure ?_))
  refine wpAny_bind (wpAny_of_eq (sliceIndices_raw (some i) none none vs.toArray.size (by simp)) ?_)
  rw [bounds_from h0 (by rw [hsz]; exact hi)]
  refine wpAny_bind (wpAny_rule ?_)
  have key : ∀ sel : Nat → Bool, (∀ k : Nat, k < vs.length → sel k = decide (i.toNat ≤ k)) → ((vs.toArray.toList.zipIdx.filterMap fun p => if sel p.2 = true then none else some p.1)).toArray = (vs.take i.toNat).toArray := fun sel hsel => by
    rw [del_take (n := i.toNat) vs.toArray.toList 0 (fun k hk => hsel k (by simpa using hk))]
    simp
  refine wpAny_bind (wpAny_updateSeq ho rfl ?_ hz1 ?_)
  · refine wpAny_bind (wpAny_letGo (wpAny_pure ⟨_, rfl, ?_⟩))
    have q := PySem.IsL.update (n := n) ho fun xs => (xs.toList.zipIdx.filterMap fun p => if (decide (i ≤ (p.2 : Int)) && decide ((p.2 : Int) < vs.toArray.size) && (((p.2 : Int) - i) % 1 == 0)) = true then none else some p.1).toArray
    rw [key (fun k => decide (i ≤ (k : Int)) && decide ((k : Int) < vs.toArray.size) && (((k : Int) - i) % 1 == 0)) (fun k hk => by rw [hsz]; simp; omega)] at q
    exact h _ _ (Heap.SameBut.update ..) q
  · refine Nat.le_succ_of_le (Nat.le_trans (Nat.le_of_eq (congrArg Array.size (key _ ?_))) ?_)
    · intro k hk
      show (if (1 : Int) > 0 then (decide (i ≤ (k : Int)) && decide ((k : Int) < vs.toArray.size) && (((k : Int) - i) % 1 == 0)) else _) = _
      rw [hsz]; simp; omega
    · rw [List.size_toArray, sizeLine_eq, List.length_take]; omega
theorem my_delN {h₀ h₁ : Heap} {L : Addr} {m : Str → Option Value} {news : List (Addr × Obj)} {news' : Nat → List (Addr × Obj)} {Q : Unit → Shared → Prop} (F : Fr h₀ L h₁ m) (N : News h₀ L h₁ news) (U : ∀ n', Upd D (W.listOf vs.toArray n) (W.listOf (vs.take i.toNat).toArray n') news (news' n')) (h0 : 0 ≤ i) (hi : i ≤ vs.length) (hz : vs.length ≤ 1000000) (hsh : s.heap = h₁.push { cls := .type "slice", data := .fields #[.int i ti, .none, .none] })
    (h : ∀ h' n', Fr h₀ L h' m → News h₀ L h' (news' n') → Q () { s with heap := h' }) : wpAny (model prog w) A (delItem (.ref D) (.ref h₁.objs.size)) Q E s := by
  have F1 := F.push { cls := .type "slice", data := .fields #[.int i ti, .none, .none] }
  rw [← hsh] at F1
  have N1 : News h₀ L s.heap news := by rw [hsh]; exact fun p hp => ⟨Heap.get?_push_of_some _ (N p hp).1, (N p hp).2⟩
  obtain ⟨pre, post, e1, e2, a, b⟩ := (U 0).split
  have z := N1 (D, W.listOf vs.toArray n) (by rw [e1]; exact List.mem_append.mpr (.inr (.head _)))
  refine my_del z.1 (by rw [hsh]; exact Heap.IsSliceOf.new ..) h0 hi hz fun h' n' hs hg => ?_
  refine h h' n' (F1.change hs z.2.1 z.2.2) ?_
  obtain ⟨pre', post', e1', e2', a', b'⟩ := (U n').split
  rw [e1'] at N1
  rw [e2']
  exact news_set N1 a' b' hs hg
end
end
-- A0b
section

section
variable {σ : Type} {prog : Program} {w : World} {A : Around} {E : Value → Shared → Prop} {s : Shared} {env : Env} {h₀ : Heap} {x : Str} {body : List Stmt} {Q : Flow → Shared → Prop}
def LpEnd (h₀ : Heap) (L : Addr) (s₁ : Shared) (x : Str) (I : Addr) (it : Obj) (M : σ → Str → Option Value) (R : σ → List (Addr × Obj)) (P : σ → Prop) (s₂ : Shared) : Prop :=
  ∃ st h' tk m', s₂ = { s₁ with heap := h', toks := tk } ∧ Fr h₀ L h' m' ∧ (∀ y, y ≠ x → m' y = M st y) ∧ News h₀ L h' ((I, it) :: R st) ∧ (∀ p ∈ R st, p.1 ≠ I) ∧ P st
theorem LpEnd.intro {L : Addr} {s₁ : Shared} {I : Addr} {it : Obj} {M : σ → Str → Option Value} {R : σ → List (Addr × Obj)} {P : σ → Prop} {h' : Heap} {tk : Nat} {m' : Str → Option Value} (st : σ) (F : Fr h₀ L h' m') (hm : ∀ y, y ≠ x → m' y = M st y) (N : News h₀ L h' ((I, it) :: R st)) (ho : ∀ p ∈ R st, p.1 ≠ I) (hp : P st) :
    LpEnd h₀ L s₁ x I it M R P { s₁ with heap := h', toks := tk } := ⟨st, h', tk, m', rfl, F, hm, N, ho, hp⟩
def LpPost (h₀ : Heap) (L : Addr) (s₁ : Shared) (x : Str) (I : Addr) (it : Obj) (M : σ → Str → Option Value) (R : σ → List (Addr × Obj)) (P : σ → Prop) (Q : Flow → Shared → Prop) (f : Flow) (s₂ : Shared) : Prop :=
  match f with
  | .ret v => Q (.ret v) s₂
  | .brk => Q .next s₂
  | _ => LpEnd h₀ L s₁ x I it M R P s₂
theorem map_none' {x : Str} {m₁ m₀ : Str → Option Value} {v : Option Value} (hm : ∀ z, z ≠ x → m₁ z = m₀ z) : (fun z => if z = x then v else m₁ z) = fun z => if z = x then v else m₀ z := by
  funext z
  by_cases h1 : z = x
  · simp [h1]
  · simp only [if_neg h1]; exact hm z h1
theorem self_map {x : Str} {m₁ m₀ : Str → Option Value} (hm : ∀ z, z ≠ x → m₁ z = m₀ z) : m₁ = fun z => if z = x then m₁ x else m₀ z := by
  funext z
  by_cases h1 : z = x
  · simp [h1]
  · simp only [if_neg h1]; exact hm z h1
theorem lpPost_unr {L : Addr} {s₁ : Shared} {I : Addr} {it : Obj} {M : σ → Str → Option Value} {R : σ → List (Addr × Obj)} {P : σ → Prop} {rest : (Str → Option Value) → List (Addr × Obj) → Prop} {f : Flow} {s₂ : Shared}
    (k : ∀ st m', P st → (∀ y, y ≠ x → m' y = M st y) → (∀ p ∈ R st, p.1 ≠ I) → rest m' (R st)) (h : LpPost h₀ L s₁ x I it M R P Q f s₂) : UnrPost h₀ L s₁ I it rest Q f s₂ := by
  cases f with
  | ret v => exact h
  | brk => exact h
  | next => obtain ⟨st, h', tk, m', e, F, hm, N, ho, hp⟩ := h; exact ⟨h', tk, m', R st, e, F, N, ho, k st m' hp hm ho⟩
  | cont => obtain ⟨st, h', tk, m', e, F, hm, N, ho, hp⟩ := h; exact ⟨h', tk, m', R st, e, F, N, ho, k st m' hp hm ho⟩
theorem rangeS {r : Addr} {a₀ b₀ : Int} {t₀ u₀ v₀ : Tok} {n : Nat} {m₀ : Str → Option Value} {news : List (Addr × Obj)} (M : σ → Str → Option Value) (R : σ → List (Addr × Obj)) (P : Nat → σ → Prop) (st₀ : σ)
    (hh : A.handled = none) (hr : IsRange s.heap r a₀ b₀ 1 t₀ u₀ v₀) (hsmall : Builtin.Range.small a₀ b₀ 1 = true) (hn : Builtin.Range.rangeSize a₀ b₀ 1 = (n : Int)) (F : Fr h₀ env.locals s.heap m₀) (N : News h₀ env.locals s.heap news)
    (hm : ∀ y, y ≠ x → m₀ y = M st₀ y) (hR : news = R st₀) (hP : P 0 st₀)
    (turn : ∀ (i : Nat) st t h tk I it, i < n → P i st → (∀ p ∈ R st, p.1 ≠ I) → (∀ p ∈ news, p.1 < I) → Fr h₀ env.locals h (fun y => if y = x then some (.int (a₀ + (i : Int)) t) else M st y) → News h₀ env.locals h ((I, it) :: R st) →
      wpAny (model prog w) A (execs body env) (LpPost h₀ env.locals { s with heap := h, toks := tk } x I it M R (P (i + 1)) Q) E { s with heap := h, toks := tk })
    (done : ∀ st u h tk, P n st → Fr h₀ env.locals h (fun y => if y = x then u else M st y) → News h₀ env.locals h (R st) → Q .next { s with heap := h, toks := tk }) :
    wpAny (model prog w) A (pyIter (.ref r)) (fun it s₂ => LoopAtV prog w A h₀ env x body Q E it s₂) E s := by
  refine iter_rangeUnr hh hr hsmall hn F N fun I hI => ?_
  have key : ∀ (k i : Nat) (st : σ) (m : Str → Option Value), i + k = n → P i st → (∀ y, y ≠ x → m y = M st y) → (∀ p ∈ R st, p.1 ≠ I) → RangeRest prog w A E h₀ env x body Q s I a₀ n k i m (R st) := by
    intro k
    induction k with
    | zero =>
      intro i st m hi hp hm _
      refine RangeRest.zero fun h tk F N => done st (m x) h tk (by have : i = n := by omega
                                                                   exact this ▸ hp) ?_ N
      rw [← self_map hm]; exact F
    | succ k ih =>
      intro i st m hi hp hm ho
      refine RangeRest.succ fun t h tk F N => ?_
      rw [map_none' hm] at F
      refine wpAny_mono (turn i st t h tk I _ (by omega) hp ho hI F N) (fun f s₂ h₂ => lpPost_unr (fun st' m' hp' hm' ho' => ih (i + 1) st' m' (by omega) hp' hm' ho') h₂) fun _ _ e => e
  rw [hR]
  exact key n 0 st₀ m₀ (by omega) hP hm (fun p hp => Nat.ne_of_lt (hI p (hR ▸ hp)))
theorem listS {ax : Addr} {lo : Obj} {vs : List Value} {n : Nat} {m₀ : Str → Option Value} {news : List (Addr × Obj)} (M : σ → Str → Option Value) (R : σ → List (Addr × Obj)) (P : Nat → σ → Prop) (st₀ : σ)
    (hh : A.handled = none) (F : Fr h₀ env.locals s.heap m₀) (N : News h₀ env.locals s.heap news) (hmem : (ax, lo) ∈ news) (hc : lo.cls = .type "list") (hd : lo.data = .seq vs.toArray n)
    (hm : ∀ y, y ≠ x → m₀ y = M st₀ y) (hR : news = R st₀) (hlp : ∀ st, (ax, lo) ∈ R st) (hP : P 0 st₀)
    (turn : ∀ (i : Nat) st v h tk I it, vs[i]? = some v → P i st → (∀ p ∈ R st, p.1 ≠ I) → (∀ p ∈ news, p.1 < I) → Fr h₀ env.locals h (fun y => if y = x then some v else M st y) → News h₀ env.locals h ((I, it) :: R st) →
      wpAny (model prog w) A (execs body env) (LpPost h₀ env.locals { s with heap := h, toks := tk } x I it M R (P (i + 1)) Q) E { s with heap := h, toks := tk })
    (done : ∀ st u h tk, P vs.length st → Fr h₀ env.locals h (fun y => if y = x then u else M st y) → News h₀ env.locals h (R st) → Q .next { s with heap := h, toks := tk }) :
    wpAny (model prog w) A (pyIter (.ref ax)) (fun it s₂ => LoopAtV prog w A h₀ env x body Q E it s₂) E s := by
  refine iter_listUnr hh F N hmem hc hd fun I hI => ?_
  have key : ∀ (r : List Value) (i : Nat) (st : σ) (m : Str → Option Value), vs.drop i = r → i + r.length = vs.length → P i st → (∀ y, y ≠ x → m y = M st y) → (∀ p ∈ R st, p.1 ≠ I) → ListRest prog w A E h₀ env x body Q s I (ax, lo) r m (R st) := by
    intro r
    induction r with
    | nil =>
      intro i st m _ hi hp hm _
      refine ListRest.zero fun h tk F N => done st (m x) h tk (by have : i = vs.length := by simpa using hi
                                                                  exact this ▸ hp) ?_ N
      rw [← self_map hm]; exact F
    | cons v r ih =>
      intro i st m hd hi hp hm ho
      have hv : vs[i]? = some v := by
        have := congrArg (fun l => l[0]?) hd
        simpa using this
      refine ListRest.succ fun it h tk _ F N => ?_
      rw [map_none' hm] at F
      refine wpAny_mono (turn i st v h tk I _ hv hp ho hI F N) (fun f s₂ h₂ => lpPost_unr (fun st' m' hp' hm' ho' => ⟨hlp st', ih (i + 1) st' m' (by rw [← List.drop_drop, hd]; rfl) (by simp only [List.length_cons] at hi; omega) hp' hm' ho'⟩) h₂) fun _ _ e => e
  rw [hR]
  exact key vs 0 st₀ m₀ (by simp) (by simp) hP hm (fun p hp => Nat.ne_of_lt (hI p (hR ▸ hp)))
theorem tupS {ax : Addr} {vs : List Value} {n : Nat} {m₀ : Str → Option Value} {news : List (Addr × Obj)} (M : σ → Str → Option Value) (R : σ → List (Addr × Obj)) (P : Nat → σ → Prop) (st₀ : σ)
    (hh : A.handled = none) (F : Fr h₀ env.locals s.heap m₀) (N : News h₀ env.locals s.heap news) (hmem : (ax, tupOf vs n) ∈ news)
    (hm : ∀ y, y ≠ x → m₀ y = M st₀ y) (hR : news = R st₀) (hlp : ∀ st, (ax, tupOf vs n) ∈ R st) (hP : P 0 st₀)
    (turn : ∀ (i : Nat) st v h tk I it, it.cls = .type "tuple_iterator" → vs[i]? = some v → P i st → (∀ p ∈ R st, p.1 ≠ I) → (∀ p ∈ news, p.1 < I) → Fr h₀ env.locals h (fun y => if y = x then some v else M st y) → News h₀ env.locals h ((I, it) :: R st) →
      wpAny (model prog w) A (execs body env) (LpPost h₀ env.locals { s with heap := h, toks := tk } x I it M R (P (i + 1)) Q) E { s with heap := h, toks := tk })
    (done : ∀ st u h tk, P vs.length st → Fr h₀ env.locals h (fun y => if y = x then u else M st y) → News h₀ env.locals h (R st) → Q .next { s with heap := h, toks := tk }) :
    wpAny (model prog w) A (pyIter (.ref ax)) (fun it s₂ => LoopAtV prog w A h₀ env x body Q E it s₂) E s := by
  have hax := N _ hmem
  have ht : s.heap.IsTuple ax vs.toArray := ⟨_, hax.1, rfl, n, rfl⟩
  have hlt : ax < s.heap.objs.size := Heap.lt_size hax.1
  have hnew := next_is_new F
  have W := Walks.tuple (prog := prog) (w := w) hh s.heap.objs.size ax (Nat.ne_of_lt hlt) vs.toArray
  rw [List.size_toArray] at W
  have below : ∀ p ∈ news, p.1 < s.heap.objs.size := fun p hp => Heap.lt_size (N p hp).1
  refine wpAny_pyIter_tuple ht ?_
  refine ⟨_, _, _, vs.length, _, _, m₀, news, fun i m₁ news₁ => ∃ st, P i st ∧ (∀ y, y ≠ x → m₁ y = M st y) ∧ news₁ = R st, rfl, W, ?_, ?_, ?_, ⟨⟨_, Heap.get?_push_size _ rfl, rfl, rfl⟩, ⟨_, Heap.get?_push_of_some _ hax.1, rfl, n, rfl⟩⟩, F.push _, (fun p hp => ⟨Heap.get?_push_of_some _ (N p hp).1, (N p hp).2⟩), ⟨st₀, hP, hm, hR⟩, ?_, ?_⟩
  · intro hmm
    rcases List.mem_cons.mp hmm with e | hmm
    · exact absurd F.ns.lt (e ▸ Nat.lt_irrefl _)
    · exact hax.2.1 (List.mem_singleton.mp hmm).symm
  · intro b hb
    rw [List.mem_singleton.mp hb]; exact hnew
  · intro p hp hI
    exact absurd (below p hp) ((List.mem_singleton.mp hI) ▸ Nat.lt_irrefl _)
  · rintro i v m₁ news₁ s₁ own ⟨hh', tk', rfl⟩ hin hP' ⟨st, hp, hm', rfl⟩ hoff hown hget hall hst F₁ N₁
    obtain ⟨it, hit, hic, _⟩ := hst.1
    have hI := hall _ (List.mem_cons_self ..) hnew _ hit
    rw [map_none' hm'] at F₁
    have N₂ : News h₀ env.locals hh' ((s.heap.objs.size, it) :: R st) := fun p hp => by
      rcases List.mem_cons.mp hp with rfl | hp
      · exact N₁ _ (List.mem_append_left _ hI)
      · exact N₁ _ (List.mem_append_right _ hp)
    refine wpAny_mono (turn i st v hh' tk' _ it hic (by simpa using hP') hp (fun p hp e => hoff p hp (e ▸ List.mem_singleton.mpr rfl)) below F₁ N₂) (fun f s₂ h₂ => ?_) fun _ _ e => e
    have fin : LpEnd h₀ env.locals { s with heap := hh', toks := tk' } x s.heap.objs.size it M R (P (i + 1)) s₂ → LoopStepU h₀ env.locals [s.heap.objs.size] own (fun m₁ news₁ => ∃ st, P (i + 1) st ∧ (∀ y, y ≠ x → m₁ y = M st y) ∧ news₁ = R st) { s with heap := hh', toks := tk' } .next s₂ := by
      rintro ⟨st', h', tk, m', e, F', hm2, N', ho, hp2⟩
      refine ⟨rfl, h', tk, m', R st', e, F', fun p hp => ?_, fun p hp hI' => ho p hp (List.mem_singleton.mp hI'), st', hp2, hm2, rfl⟩
      rcases List.mem_append.mp hp with hp | hp
      · have h2 : hh'.get? p.1 = some p.2 := hget p hp
        rcases List.mem_cons.mp (hown p hp) with h1 | h1
        · have h3 : p = (s.heap.objs.size, it) := by
            rw [h1, hit] at h2
            exact Prod.ext h1 (Option.some.inj h2).symm
          rw [h3]; exact N' _ (List.mem_cons_self ..)
        · have h1' : p.1 = ax := List.mem_singleton.mp h1
          have h3 : p = (ax, tupOf vs n) := by
            rw [h1', (N₁ _ (List.mem_append_right _ (hlp st))).1] at h2
            exact Prod.ext h1' (Option.some.inj h2).symm
          rw [h3]; exact N' _ (List.mem_cons_of_mem _ (hlp st'))
      · exact N' _ (List.mem_cons_of_mem _ hp)
    cases f with
    | ret v => exact .ret h₂
    | brk => exact .brk h₂
    | next => exact .next (fin h₂)
    | cont => exact .cont (fin h₂)
  · rintro h' tk m' news' F' N' _ ⟨st, hp, hm', rfl⟩
    refine done st (m' x) h' tk hp ?_ N'
    rw [← self_map hm']; exact F'
theorem small1 {z : Int} (h0 : 0 ≤ z) (h1 : z ≤ 1000000) : Builtin.Range.small 0 z 1 = true := by
  have e : Builtin.Range.rangeSize 0 z 1 = z := by
    unfold Builtin.Range.rangeSize
    by_cases h : (0 : Int) < z
    · simp [h]
    · have : z = 0 := by omega
      subst this; rfl
  have e2 : Builtin.Range.rangeSize 0 z 1 = z := e
  unfold Builtin.Range.small Builtin.Range.rangeFitsLong
  rw [e2]
  simp
  omega
theorem size2 {z : Int} (h0 : 0 ≤ z) : Builtin.Range.rangeSize 1 (z + 1) 1 = (z.toNat : Int) := by
  unfold Builtin.Range.rangeSize
  by_cases h : (1 : Int) < z + 1
  · simp [h]; omega
  · have : z = 0 := by omega
    subst this; rfl
theorem small2 {z : Int} (h0 : 0 ≤ z) (h1 : z ≤ 1000000) : Builtin.Range.small 1 (z + 1) 1 = true := by
  have e := size2 h0
  have e3 : ((z.toNat : Nat) : Int) = z := by omega
  unfold Builtin.Range.small Builtin.Range.rangeFitsLong
  rw [e, e3]
  simp
  omega
theorem size1 {z : Int} (h0 : 0 ≤ z) : Builtin.Range.rangeSize 0 z 1 = (z.toNat : Int) := by
  unfold Builtin.Range.rangeSize
  by_cases h : (0 : Int) < z
  · simp [h]; omega
  · have : z = 0 := by omega
    subst this; rfl
end
abbrev M1 {σ : Type} (nm : Str) (f : σ → Value) (r : Str → Option Value) : σ → Str → Option Value := fun q y => if y = nm then some (f q) else r y
theorem nm1 {n c : Str} {a b d : Option Value} {r : Str → Option Value} : ∀ y, y ≠ c → (if y = n then a else if y = c then b else if y = n then d else r y) = (if y = n then a else r y) := fun y hy => by
  by_cases e9 : y = n
  · rw [if_pos e9, if_pos e9]
  · rw [if_neg e9, if_neg e9, if_neg hy, if_neg e9]
theorem putS_congr {l l' : List Value} {i i' : Int} {v : Value} (h : l = l') (e : i = i') : putS l i v = putS l' i' v := by rw [h, e]
theorem pch_get {c : Value} {gv rest : List Value} {x : Value} {k j : Nat} (hk : k = gv.length + 1 + j) (h : rest[j]? = some x) : (c :: (gv ++ rest))[k]? = some x := by
  have : k = (gv.length + j) + 1 := by omega
  rw [this, List.getElem?_cons_succ, List.getElem?_append_right (by omega)]
  rw [Nat.add_sub_cancel_left]; exact h
def Links (R : Int → Value → Prop) : Int → List Int → Prop
  | e, [] => e < 0
  | e, x :: r => e = x ∧ 0 ≤ x ∧ ∃ e' t, R x (.int e' t) ∧ Links R e' r
theorem ints_snoc {vs : List Value} {ns : List Int} (h : IntsAre vs ns) (x : Int) (t : Tok) : IntsAre (vs ++ [.int x t]) (ns ++ [x]) := by
  induction h with
  | nil => exact .cons x t .nil
  | cons n t' _ ih => exact .cons n t' ih
def ChJ (R : Int → Value → Prop) (es : List Int) (D : Addr) (ld : List (Addr × Obj)) (nm : Str) (r : Str → Option Value) (n : Nat) (m₁ : Str → Option Value) (news₁ : List (Addr × Obj)) : Prop :=
  ∃ es1 es2 vs k e' te', es = es1 ++ es2 ∧ n = es2.length ∧ IntsAre vs es1 ∧ vs.length + n = es.length ∧ Links R e' es2 ∧ m₁ = (fun y => if y = nm then some (.int e' te') else r y) ∧ news₁ = (D, W.listOf vs.toArray k) :: ld
theorem nm0 {n : Str} {a b : Option Value} {r : Str → Option Value} : (fun y => if y = n then a else if y = n then b else r y) = (fun y => if y = n then a else r y) := by
  funext y
  by_cases e9 : y = n
  · rw [if_pos e9, if_pos e9]
  · rw [if_neg e9, if_neg e9, if_neg e9]
def StJ (a : Str → Option Value) (l : List (Addr × Obj)) (n : Nat) (m₁ : Str → Option Value) (news₁ : List (Addr × Obj)) : Prop := m₁ = a ∧ news₁ = l
abbrev M2 {σ : Type} (n1 n2 : Str) (f1 f2 : σ → Option Value) (r : Str → Option Value) : σ → Str → Option Value := fun q y => if y = n1 then f1 q else if y = n2 then f2 q else r y
theorem M2_start {σ : Type} {x n1 n2 : Str} {f1 f2 : σ → Option Value} {m₀ : Str → Option Value} {q : σ} (h1 : f1 q = m₀ n1) (h2 : f2 q = m₀ n2) : ∀ y, y ≠ x → m₀ y = M2 n1 n2 f1 f2 m₀ q y := fun y _ => by
  dsimp only [M2]
  by_cases e1 : y = n1
  · rw [if_pos e1, h1, e1]
  · rw [if_neg e1]
    by_cases e2 : y = n2
    · rw [if_pos e2, h2, e2]
    · rw [if_neg e2]
theorem ints_at {vs : List Value} {ns : List Int} (h : IntsAre vs ns) : ∀ {i : Nat} {v : Value}, vs[i]? = some v → ∃ x t, v = .int x t := by
  induction h with
  | nil => intro i v e; simp at e
  | cons n t _ ih =>
    intro i v e
    cases i with
    | zero => exact ⟨n, t, by simpa using e.symm⟩
    | succ j => exact ih (by simpa using e)
theorem ints_rev {vs : List Value} {ns : List Int} (h : IntsAre vs ns) : IntsAre vs.reverse ns.reverse := by
  induction h with
  | nil => exact .nil
  | cons n t _ ih => rw [List.reverse_cons, List.reverse_cons]; exact ints_snoc ih n t
theorem LpEnd.M2i {α : Type} {h₀ : Heap} {L : Addr} {s₁ : Shared} {x n1 n2 : Str} {I : Addr} {it : Obj} {r : Str → Option Value} {R : α × Option Value × Option Value → List (Addr × Obj)} {P : α × Option Value × Option Value → Prop} {h' : Heap} {tk : Nat} {m' : Str → Option Value} (a : α) (F : Fr h₀ L h' m') (hm : ∀ y, y ≠ x → y ≠ n1 → y ≠ n2 → m' y = r y)
    (N : News h₀ L h' ((I, it) :: R (a, m' n1, m' n2))) (ho : ∀ p ∈ R (a, m' n1, m' n2), p.1 ≠ I) (hp : P (a, m' n1, m' n2)) : LpEnd h₀ L s₁ x I it (M2 n1 n2 (fun q => q.2.1) (fun q => q.2.2) r) R P { s₁ with heap := h', toks := tk } := by
  refine LpEnd.intro (a, m' n1, m' n2) F (fun y hy => ?_) N ho hp
  dsimp only [M2]
  by_cases e1 : y = n1
  · rw [if_pos e1, e1]
  · rw [if_neg e1]
    by_cases e2 : y = n2
    · rw [if_pos e2, e2]
    · rw [if_neg e2]; exact hm y hy e1 e2
theorem off_same {l l' : List (Addr × Obj)} {I : Addr} (h : ∀ p ∈ l, p.1 ≠ I) (e : l.map (·.1) = l'.map (·.1) := by rfl) : ∀ p ∈ l', p.1 ≠ I := fun p hp => by
  have : p.1 ∈ l'.map (·.1) := List.mem_map.mpr ⟨p, hp, rfl⟩
  rw [← e] at this
  obtain ⟨q, hq, e⟩ := List.mem_map.mp this
  exact e ▸ h q hq
theorem News.tail9 {h₀ h : Heap} {L : Addr} {t : Addr × Obj} {l : List (Addr × Obj)} (N : News h₀ L h (t :: l)) : News h₀ L h l := fun p hp => N p (.tail _ hp)
theorem News.mv9 {h₀ h : Heap} {L : Addr} {t a1 a2 a3 a4 a5 a6 a7 a8 a9 : Addr × Obj} {tl : List (Addr × Obj)} (N : News h₀ L h (a1 :: a2 :: a3 :: a4 :: a5 :: a6 :: a7 :: a8 :: a9 :: t :: tl)) : News h₀ L h (t :: a1 :: a2 :: a3 :: a4 :: a5 :: a6 :: a7 :: a8 :: a9 :: tl) :=
  News.swapG [a1, a2, a3, a4, a5, a6, a7, a8, a9] [t] N
theorem putS_get {l : List Value} {i : Int} {v : Value} (h0 : 0 ≤ i) (h : i ≤ l.length) (j : Nat) : (putS l i v)[j]? = if (j : Int) = i then some v else l[j]? := by
  unfold putS
  split
  · rw [List.getElem?_set]
    by_cases e : (j : Int) = i
    · subst e; simp; omega
    · have : i.toNat ≠ j := by omega
      simp [e, this]
  · have hl : i.toNat = l.length := by omega
    by_cases e : (j : Int) = i
    · have : j = l.length := by omega
      subst this; simp [e]
    · rw [if_neg e]
      by_cases q : j < l.length
      · rw [List.getElem?_append_left q]
      · rw [List.getElem?_eq_none (by simp; omega), List.getElem?_eq_none (by omega)]
theorem putL_len : ∀ (vs : List Value) (l : List Value) (i : Int), 0 ≤ i → i ≤ l.length → i + vs.length ≤ (putL l i vs).length ∧ l.length ≤ (putL l i vs).length ∧ (putL l i vs).length ≤ l.length + vs.length
  | [], l, i, h0, h => by simp [putL, h]
  | v :: vs, l, i, h0, h => by
    have a := putS_len (v := v) h0 h
    have b := putL_len vs (putS l i v) (i + 1) (by omega) (by omega)
    rw [putL, List.length_cons]
    push_cast
    omega
theorem putL_get : ∀ (vs : List Value) (l : List Value) (i : Int), 0 ≤ i → i ≤ l.length → ∀ j : Nat, (putL l i vs)[j]? = if i ≤ j ∧ (j : Int) < i + vs.length then vs[((j : Int) - i).toNat]? else l[j]?
  | [], l, i, h0, h, j => by rw [putL, if_neg (by simp only [List.length_nil]; omega)]
  | v :: vs, l, i, h0, h, j => by
    have a := putS_len (v := v) h0 h
    rw [putL, putL_get vs (putS l i v) (i + 1) (by omega) (by omega) j, putS_get h0 h]
    by_cases e : (j : Int) = i
    · subst e
      rw [if_neg (by omega), if_pos rfl, if_pos ⟨Int.le_refl _, by rw [List.length_cons]; omega⟩]
      simp
    · rw [if_neg e]
      by_cases q : i ≤ j ∧ (j : Int) < i + (v :: vs).length
      · rw [if_pos q, if_pos (by simp at q; omega)]
        have : ((j : Int) - i).toNat = ((j : Int) - (i + 1)).toNat + 1 := by omega
        rw [this, List.getElem?_cons_succ]
      · rw [if_neg q, if_neg (by simp at q; omega)]
theorem At.putL_in {vs l : List Value} {i k : Int} {v : Value} (h0 : 0 ≤ i) (h : i ≤ l.length) (hb : i < 2 ^ 50) (hk : vs[(k - i).toNat]? = some v) (hi : i ≤ k) (hz : vs.length < 2 ^ 50) : At (putL l i vs) k v := by
  have hlt : (k - i).toNat < vs.length := (List.getElem?_eq_some_iff.mp hk).1
  refine ⟨by omega, by omega, ?_⟩
  rw [putL_get vs l i h0 h, if_pos (by omega), ← hk]
  congr 1
  omega
theorem At.putL_out {vs l : List Value} {i k : Int} {v : Value} (h0 : 0 ≤ i) (h : i ≤ l.length) (ha : At l k v) (hk : k < i) : At (putL l i vs) k v := by
  refine ⟨ha.1, ha.2.1, ?_⟩
  rw [putL_get vs l i h0 h, if_neg (by have := ha.1; omega)]
  exact ha.2.2
theorem putL_append : ∀ (vs us l : List Value) (i : Int), putL l i (vs ++ us) = putL (putL l i vs) (i + vs.length) us
  | [], us, l, i => by simp [putL]
  | v :: vs, us, l, i => by
    rw [List.cons_append, putL, putL_append vs us, putL, List.length_cons]
    congr 1
    push_cast; omega
theorem putL_snoc (v : Value) : ∀ (vs : List Value) (l : List Value) (i : Int), putL l i (vs ++ [v]) = putS (putL l i vs) (i + vs.length) v
  | [], l, i => by simp [putL]
  | u :: vs, l, i => by
    rw [List.cons_append, putL, putL_snoc v vs, putL, List.length_cons]
    congr 1
    push_cast; omega
end
-- A0t
section

section
variable {σ : Type} {prog : Program} {w : World} {A : Around} {E : Value → Shared → Prop} {s : Shared} {env : Env} {h₀ : Heap} {target : PySem.Expr} {x1 x2 : Str} {body : List Stmt} {Q : Flow → Shared → Prop}
def LpEnd2 (h₀ : Heap) (L : Addr) (s₁ : Shared) (x1 x2 : Str) (I : Addr) (it : Obj) (M : σ → Str → Option Value) (R : σ → List (Addr × Obj)) (P : σ → Prop) (s₂ : Shared) : Prop :=
  ∃ st h' tk m', s₂ = { s₁ with heap := h', toks := tk } ∧ Fr h₀ L h' m' ∧ (∀ y, y ≠ x1 → y ≠ x2 → m' y = M st y) ∧ News h₀ L h' ((I, it) :: R st) ∧ (∀ p ∈ R st, p.1 ≠ I) ∧ P st
theorem LpEnd2.intro {L : Addr} {s₁ : Shared} {I : Addr} {it : Obj} {M : σ → Str → Option Value} {R : σ → List (Addr × Obj)} {P : σ → Prop} {h' : Heap} {tk : Nat} {m' : Str → Option Value} (st : σ) (F : Fr h₀ L h' m') (hm : ∀ y, y ≠ x1 → y ≠ x2 → m' y = M st y) (N : News h₀ L h' ((I, it) :: R st)) (ho : ∀ p ∈ R st, p.1 ≠ I) (hp : P st) :
    LpEnd2 h₀ L s₁ x1 x2 I it M R P { s₁ with heap := h', toks := tk } := ⟨st, h', tk, m', rfl, F, hm, N, ho, hp⟩
def LpPost2 (h₀ : Heap) (L : Addr) (s₁ : Shared) (x1 x2 : Str) (I : Addr) (it : Obj) (M : σ → Str → Option Value) (R : σ → List (Addr × Obj)) (P : σ → Prop) (Q : Flow → Shared → Prop) (f : Flow) (s₂ : Shared) : Prop :=
  match f with
  | .ret v => Q (.ret v) s₂
  | .brk => Q .next s₂
  | _ => LpEnd2 h₀ L s₁ x1 x2 I it M R P s₂
theorem self_map2 {m₁ m₀ : Str → Option Value} (hm : ∀ z, z ≠ x1 → z ≠ x2 → m₁ z = m₀ z) : m₁ = fun z => if z = x1 then m₁ x1 else if z = x2 then m₁ x2 else m₀ z := by
  funext z
  by_cases e1 : z = x1
  · simp [e1]
  · rw [if_neg e1]
    by_cases e2 : z = x2
    · simp [e2]
    · rw [if_neg e2]; exact hm z e1 e2
theorem turnS {ax : Addr} {vs : List Value} {n : Nat} {m₀ : Str → Option Value} {news : List (Addr × Obj)} (M : σ → Str → Option Value) (R : σ → List (Addr × Obj)) (P : Nat → σ → Prop) (st₀ : σ)
    (hh : A.handled = none) (F : Fr h₀ env.locals s.heap m₀) (N : News h₀ env.locals s.heap news) (hmem : (ax, W.listOf vs.toArray n) ∈ news)
    (hm : ∀ y, y ≠ x1 → y ≠ x2 → m₀ y = M st₀ y) (hR : news = R st₀) (hlp : ∀ st, (ax, W.listOf vs.toArray n) ∈ R st) (hP : P 0 st₀)
    (turn : ∀ (i : Nat) st v h tk I it u1 u2, vs[i]? = some v → P i st → (∀ p ∈ R st, p.1 ≠ I) → (∀ p ∈ news, p.1 < I) → Fr h₀ env.locals h (fun y => if y = x1 then u1 else if y = x2 then u2 else M st y) → News h₀ env.locals h ((I, it) :: R st) →
      wpAny (model prog w) A (assign target env v) (fun _ s₃ => wpAny (model prog w) A (execs body env) (LpPost2 h₀ env.locals { s with heap := h, toks := tk } x1 x2 I it M R (P (i + 1)) Q) E s₃) E { s with heap := h, toks := tk })
    (done : ∀ st u1 u2 h tk, P vs.length st → Fr h₀ env.locals h (fun y => if y = x1 then u1 else if y = x2 then u2 else M st y) → News h₀ env.locals h (R st) → Q .next { s with heap := h, toks := tk }) :
    wpAny (model prog w) A (pyIter (.ref ax)) (fun it s₂ => TurnsAt prog w A h₀ env target body Q E it s₂) E s := by
  have hax := N _ hmem
  have hl : s.heap.IsList ax vs.toArray := ⟨_, hax.1, rfl, n, rfl⟩
  have hlt : ax < s.heap.objs.size := Heap.lt_size hax.1
  have hne : ax ≠ s.heap.objs.size := Nat.ne_of_lt hlt
  have hnew := next_is_new F
  have WW := Walks.list (prog := prog) (w := w) hh s.heap.objs.size ax hne vs.toArray
  rw [List.size_toArray] at WW
  have below : ∀ p ∈ news, p.1 < s.heap.objs.size := fun p hp => Heap.lt_size (N p hp).1
  refine wpAny_pyIter_list hl ?_
  refine ⟨_, _, _, vs.length, _, _, _, m₀, news, fun i m₁ news₁ => ∃ st, P i st ∧ (∀ y, y ≠ x1 → y ≠ x2 → m₁ y = M st y) ∧ news₁ = R st, rfl, KTurns.ofWalks WW fun i v s Q E st q => letGo_listiter st.1 q, ?_, ?_, ?_, ⟨⟨_, Heap.get?_push_size _ rfl, rfl, rfl⟩, hl.at fun o e => Heap.get?_push_of_some _ e⟩, F.push _, (fun p hp => ⟨Heap.get?_push_of_some _ (N p hp).1, (N p hp).2⟩), ⟨st₀, hP, hm, hR⟩, ?_, ?_⟩
  · intro hmm
    rcases List.mem_cons.mp hmm with e | hmm
    · exact absurd F.ns.lt (e ▸ Nat.lt_irrefl _)
    · exact hax.2.1 (List.mem_singleton.mp hmm).symm
  · intro b hb
    rw [List.mem_singleton.mp hb]; exact hnew
  · intro p hp hI
    exact absurd (below p hp) ((List.mem_singleton.mp hI) ▸ Nat.lt_irrefl _)
  · rintro i v m₁ news₁ hh' tk' own hin hP' ⟨st, hp, hm', rfl⟩ hoff hown hget hall hst F₁ N₁
    obtain ⟨it, hit, _⟩ := hst.1
    have hI := hall _ (List.mem_cons_self ..) hnew _ hit
    rw [self_map2 hm'] at F₁
    have N₂ : News h₀ env.locals hh' ((s.heap.objs.size, it) :: R st) := fun p hp => by
      rcases List.mem_cons.mp hp with rfl | hp
      · exact N₁ _ (List.mem_append_left _ hI)
      · exact N₁ _ (List.mem_append_right _ hp)
    refine wpAny_mono (turn i st v hh' tk' _ it _ _ (by simpa using hP') hp (fun p hp e => hoff p hp (e ▸ List.mem_singleton.mpr rfl)) below F₁ N₂) (fun _ s₃ h₃ => wpAny_mono h₃ (fun f s₂ h₂ => ?_) fun _ _ e => e) fun _ _ e => e
    have fin : LpEnd2 h₀ env.locals { s with heap := hh', toks := tk' } x1 x2 s.heap.objs.size it M R (P (i + 1)) s₂ → LoopStepU h₀ env.locals [s.heap.objs.size] own (fun m₁ news₁ => ∃ st, P (i + 1) st ∧ (∀ y, y ≠ x1 → y ≠ x2 → m₁ y = M st y) ∧ news₁ = R st) { s with heap := hh', toks := tk' } .next s₂ := by
      rintro ⟨st', h', tk, m', e, F', hm2, N', ho, hp2⟩
      refine ⟨rfl, h', tk, m', R st', e, F', fun p hp => ?_, fun p hp hI' => ho p hp (List.mem_singleton.mp hI'), st', hp2, hm2, rfl⟩
      rcases List.mem_append.mp hp with hp | hp
      · have h2 : hh'.get? p.1 = some p.2 := hget p hp
        rcases List.mem_cons.mp (hown p hp) with h1 | h1
        · have h3 : p = (s.heap.objs.size, it) := by
            rw [h1, hit] at h2
            exact Prod.ext h1 (Option.some.inj h2).symm
          rw [h3]; exact N' _ (List.mem_cons_self ..)
        · have h1' : p.1 = ax := List.mem_singleton.mp h1
          have h3 : p = (ax, W.listOf vs.toArray n) := by
            rw [h1', (N₁ _ (List.mem_append_right _ (hlp st))).1] at h2
            exact Prod.ext h1' (Option.some.inj h2).symm
          rw [h3]; exact N' _ (List.mem_cons_of_mem _ (hlp st'))
      · exact N' _ (List.mem_cons_of_mem _ hp)
    cases f with
    | ret v => exact .ret h₂
    | brk => exact .brk h₂
    | next => exact .next (fin h₂)
    | cont => exact .cont (fin h₂)
  · rintro h' tk m' news' F' N' _ ⟨st, hp, hm', rfl⟩
    refine done st (m' x1) (m' x2) h' tk hp ?_ N'
    rw [← self_map2 hm']; exact F'
theorem my_eqb {A : Around} {s : Shared} (a : Value) : PySem.SeqAt.EqAt A s a a true := fun prog w E Q h => by
  unfold PySem.eqBool
  refine wpAny_holding ?_
  have e : (a == a) = true := by simp
  simp only [e, if_true]
  exact wpAny_bind (wpAny_rule (wpAny_pure h))
theorem my_ne_same {L a b : Addr} {news : List (Addr × Obj)} {vs : List Value} {n n' : Nat} {Q : Value → Shared → Prop} (N : News h₀ L s.heap news) (ha : (a, W.listOf vs.toArray n) ∈ news) (hb : (b, W.listOf vs.toArray n') ∈ news) (hu : A.units < cLine)
    (h : Q (.bool false) s) : wpAny (model prog w) A (compareOp .NotEq (.ref a) (.ref b)) Q E s := by
  have k := PySem.SeqAt.RcNeAt.lists (A := A) (s := s) (l := a) (b := b) (items := vs.toArray) (items2 := vs.toArray) (e := fun _ => true) ⟨_, (N _ ha).1, rfl, n, rfl⟩ ⟨_, (N _ hb).1, rfl, n', rfl⟩ rfl hu (fun j h1 h2 => my_eqb _)
  have e : (!(List.range vs.toArray.size).all fun _ => true) = false := by simp
  exact k prog w E Q (by rw [e]; exact h)
end
end
local macro_rules | `(tactic| k_all) => `(tactic| exact Off.tl (by assumption) (by k_mem))
local macro_rules | `(tactic| k_room) => `(tactic| ((dsimp only [depth_mark, depth_under_make, depth_under_kw, depth_in1, depth_deeper, depth_caller, recursionLimit]); first | exact room (by assumption) (by rfl) | exact roomL (by assumption) (by rfl) | exact roomL0 (by assumption) (by rfl) | omega))
local macro_rules | `(tactic| k_units) => `(tactic| ((dsimp only [units_in1, units_deeper, Around.mark_units, cLine_is]); first | exact room (by assumption) (by rfl) | exact roomL (by assumption) (by rfl) | exact roomL0 (by assumption) (by rfl) | omega))
local macro_rules | `(tactic| k_enter) => `(tactic| (refine' code_defC ?k1 ?k2 ?k3 ?k4 ?k5 ?kA ?kF ?kK ?k6 ?k7 ?k8 ?k9 ?kB ?kD ?_ ?c2 ?c3 ?c4; (case kA => first | exact rfl | assumption | tb_start); (case kF => first | exact rfl | assumption); (case kK => first | exact rfl | assumption); (case k1 => k_asm); (case k2 => k_asm); (case k3 => k_asm); (case k4 => k_asm); (case k5 => k_asm); (case k6 => k_is); (case k7 => k_is); (case k8 => k_room); (case k9 => first | exact BindsTo.of_eq rfl | exact binds_K (by k_in) rfl (by k_is) rfl rfl rfl | fail "k_enter: no rule for these arguments"); (case kB => exact rfl); (case kD => decide +kernel); (case c2 => exact rfl); (case c3 => exact rfl); (case c4 => exact rfl); k_whole; intro g' L' h' tk' cells' FG' F' N' Y' B' X' T' l1; (try k_lt l1); k_cells Y'; (try simp only [List.cons_append, List.nil_append] at N'); (try dsimp only); (try k_lift B'); (try k_fold)))
local macro_rules | `(tactic| k_enter) => `(tactic| (refine' code_def ?k1 ?k2 ?k3 ?k4 ?k5 ?kA ?kF ?kK ?k6 ?k7 ?k8 ?k9 ?kB ?_ ?c2 ?c3 ?c4 ?c5; (case kA => first | exact rfl | assumption | tb_start); (case kF => first | exact rfl | assumption); (case kK => first | exact rfl | assumption); (case k1 => k_asm); (case k2 => k_asm); (case k3 => k_asm); (case k4 => k_asm); (case k5 => k_asm); (case k6 => k_is); (case k7 => k_is); (case k8 => k_room); (case k9 => first | exact BindsTo.of_eq rfl | exact binds_K (by k_in) rfl (by k_is) rfl rfl rfl | fail "k_enter: no rule for these arguments"); (case c5 => decide); (case kB => exact locs rfl); (case c2 => exact rfl); (case c3 => exact rfl); (case c4 => exact rfl); k_whole; intro g' L' h' FG' F' N' B' X' T'; (try dsimp only); (try k_lift B'); (try k_fold)))
local macro_rules | `(tactic| k_steps) => `(tactic| repeat' (first | (k_unfold; (try dsimp only)) | walk1 | (dsimp only; walk1) | (leave1; walk_say "STEP leave1"; try dsimp only) | fail "no step"))
local macro_rules | `(tactic| walk_at "subscriptTail") => `(tactic| ((with_reducible show wpAny _ _ (subscriptTail _ _ (Value.ref _) (Value.int _ _)) _ _ _); k_dflt (refine' my_sub ?k1 ?k2 ?k3 ?_ ?k4; (case k1 => k_asm); (case k2 => k_mem); (case k3 => first | assumption | exact At.cast (by assumption) (by omega)); (case k4 => with_unfolding_all rfl); k_whole)))
local macro_rules | `(tactic| walk_at "setItem ref int") => `(tactic| ((with_reducible show wpAny _ _ (setItem (Value.ref _) (Value.int _ _) _) _ _ _); k_dflt (refine' my_set ?k1 ?k2 ?k3 ?k4 ?k5 ?k6 ?_; (case k1 => k_asm); (case k2 => k_asm); (case k3 => k_upd); (case k4 => omega); (case k5 => first | omega | (simp only [List.length_append, List.length_cons, List.length_nil]; omega)); (case k6 => omega); k_whole); intro h' F' N'; (try k_sweep)))
local macro_rules | `(tactic| walk_at "call builtin:len") => `(tactic| ((with_reducible show wpAny _ _ (call (Value.builtin "len") [Value.ref _]) _ _ _); k_dflt (refine' my_len ?k1 ?k2 ?k3 ?_; (case k1 => k_asm); (case k2 => first | k_mem | exact mem_tl9 (by assumption)); (case k3 => first | omega | (simp only [List.length_append, List.length_cons, List.length_nil]; omega)); k_whole); intro t'))
local macro_rules | `(tactic| walk_at "call builtin:list.append") => `(tactic| ((with_reducible show wpAny _ _ (call (Value.builtin _) [Value.ref _, _]) _ _ _); k_dflt (refine' my_app ?k1 ?k2 ?k3 ?k4 ?_; (case k1 => k_asm); (case k2 => k_asm); (case k3 => k_upd); (case k4 => omega); k_whole); intro h' F' N'; (try k_sweep)))
local macro_rules | `(tactic| walk_at "WhlIf") => `(tactic| (first | (refine WhlIf.no (decide_eq_false (by omega)) ?_) | (refine WhlIf.yes (decide_eq_true (by omega)) ?_) | (refine WhlIf.no (decide_eq_false (by simp only [List.length_append, List.length_cons, List.length_nil]; omega)) ?_) | (refine WhlIf.yes (decide_eq_true (by simp only [List.length_append, List.length_cons, List.length_nil]; omega)) ?_)))
local macro_rules | `(tactic| tb_start) => `(tactic| first | assumption | exact rfl | exact fr_deeper (by assumption) | exact fr_deeper (fr_deeper (by assumption)) | exact fr_deeper (fr_deeper (fr_deeper (by assumption))) | fail "no frames")
local macro_rules | `(tactic| tb_rel) => `(tactic| first | assumption | exact News.mv1 (by assumption))
local macro_rules | `(tactic| ktr_room) => `(tactic| ((try dsimp only [depth_mark, depth_in1, depth_deeper, depth_under_kw, units_mk, units_in1, units_deeper, Around.mark_units]); first | exact room0 (by assumption) (by rfl) | exact room (by assumption) (by rfl) | omega))
local macro_rules | `(tactic| ktr_rel) => `(tactic| first | assumption | (refine' Geo.consT ?a ?b; (case b => walk_at "my_lt"); (case a => ktr_rel)) | (refine' Geo.consN ?a ?b; (case b => assumption); (case a => ktr_rel)) | (refine' Geo.consB ?a ?b; (case b => assumption); (case a => ktr_rel)) | (refine' Geo.cons ?a ?b; (case a => ktr_rel); (case b => omega)))
local macro_rules | `(tactic| walk_at "subscriptTail") => `(tactic| ((with_reducible show wpAny _ _ (subscriptTail _ _ (Value.ref _) (Value.int _ _)) _ _ _); k_dflt (refine' my_tup ?k1 ?k2 ?k3 ?k4 ?k5 ?k6 ?_ ?k7; (case k1 => k_asm); (case k2 => exact mem_tl9 (by assumption)); (case k3 => decide); (case k4 => decide); (case k5 => rfl); (case k6 => rfl); (case k7 => with_unfolding_all rfl); k_whole)))
local macro_rules | `(tactic| walk_at "call type:range") => `(tactic| ((rename Fr _ _ _ _ => F'); (rename News _ _ _ _ => N'); (with_unfolding_all first | refine range1_rows F' N' ?_ | refine range2_rows F' N' ?_); intro h' tk' t' u' v' R' F' N' _; (try k_sweep)))
local macro_rules | `(tactic| walk_at "exec For Name") => `(tactic| (k_here; (rename Fr _ _ _ _ => lF'); (with_unfolding_all refine' For_invVF lF' ?k1 ?k2 ?_; (case k1 => exact rfl); (case k2 => exact rfl); k_whole)))
local macro_rules | `(tactic| walk_at "LpPost") => `(tactic| (dsimp only [LpPost]))
local macro_rules | `(tactic| walk_at "my_mem") => `(tactic| first | assumption | exact .head _ | (refine List.Mem.tail _ ?_; walk_at "my_mem"))
local macro_rules | `(tactic| walk_at "my_and") => `(tactic| first | exact And.left | exact And.right | exact id | (refine fun h => ?_; refine (?_ : _ → _) h.2; walk_at "my_and"))
local macro_rules | `(tactic| walk_at "my_lt") => `(tactic| first | assumption | (refine ltc (by assumption) ?_; walk_at "my_and"))
local macro_rules | `(tactic| k_ne) => `(tactic| first | exact Nat.ne_of_lt (by assumption) | exact Nat.ne_of_gt (by assumption) | (refine Nat.ne_of_lt ?_; walk_at "my_lt") | (refine Nat.ne_of_gt ?_; walk_at "my_lt") | fail "no order at hand")
local macro_rules | `(tactic| k_lt $h:ident) => `(tactic| (replace $h := allLt_of $h; dsimp only [AllLt] at $h:ident))
-- A_put
section
section
variable {prog : Program} {w : World} {A A₀ : Around} {base : Heap} {outer : List Env} {env : Env} {h₀ : Heap} {L : Addr} {m : Str → Option Value} {mean : ExcName → Option Value} {mg mb : Str → Option Value} {loose : List Str} {E : Value → Shared → Prop} {s : Shared} {Q : Value → Shared → Prop}
  (B : Below A₀ base outer h₀) (F : Fr h₀ L s.heap m) (X : (kK w.params).In h₀) (T : Top kQ loose mean mg mb h₀) (hA : A.frames = some (env :: outer)) (hf : env.frame = some L) (hke : env.scope.kind = .function) (hH : A.handled = none) (hd : A.depth ≤ 490) (hu : A.units ≤ 4900)
  {kt ks : Nat → Tok} {sy rows md mm sd st hp sk tr xl ro ba : Addr} {t1 t2 t3 tb0 tmd tms tcp te tb ts1 thb tbb : Tok} {cp e b hbv bbv : Int} {nk nh nt nx nr : Nat} {stk hpv xs rws : List Value} {tl : List (Addr × Obj)}
  (G : Geo rows md mm sd st hp sk tr xl tl) (N : News h₀ L s.heap ((mm, instObj 534 md) :: (md, dictOf (mD w kt sy rows st xl ro ba t1 t2 t3 tb0 tmd tms cp tcp e te b tb) 18) :: (st, instObj 374 sd) :: (sd, dictOf (sD w ks sy hp sk tr ts1 hbv thb bbv tbb) 7) :: (sk, W.listOf (List.toArray stk) nk) :: (hp, W.listOf (List.toArray hpv) nh) :: (tr, W.listOf #[] nt) :: (xl, W.listOf (List.toArray xs) nx) :: (rows, W.listOf (List.toArray rws) nr) :: tl))
include B F X T hA hf hke hH hd hu G N
theorem c_put {i : Int} {ti : Tok} {v : Value} (h0 : 0 ≤ i) (hi : i ≤ stk.length) (hz : stk.length ≤ 1000000)
    (h : ∀ h' tk stk' nk', stk' = putS stk i v → i + 1 ≤ stk'.length → stk.length ≤ stk'.length → stk'.length ≤ stk.length + 1 → Fr h₀ L h' m → News h₀ L h' ((mm, instObj 534 md) :: (md, dictOf (mD w kt sy rows st xl ro ba t1 t2 t3 tb0 tmd tms cp tcp e te b tb) 18) :: (st, instObj 374 sd) :: (sd, dictOf (sD w ks sy hp sk tr ts1 hbv thb bbv tbb) 7) :: (sk, W.listOf (List.toArray stk') nk') :: (hp, W.listOf (List.toArray hpv) nh) :: (tr, W.listOf #[] nt) :: (xl, W.listOf (List.toArray xs) nx) :: (rows, W.listOf (List.toArray rws) nr) :: tl) → Q .none { s with heap := h', toks := tk }) :
    wpAny (model prog w) A (call (.ref 279) [.ref st, .int i ti, v]) Q E s := by
  obtain ⟨o1, o2, o3, o4, o5, o6, o7, o8, hT⟩ := id G
  obtain ⟨g2, g3, g4, g5, g6, g7, g8⟩ := G.lts
  have hl := putS_len (v := v) h0 hi
  by_cases hlt : i.toNat < stk.length
  · have h := fun h' tk nk' => h h' tk _ nk' rfl hl.1 hl.2.1 hl.2.2
    rw [putS_lt hlt] at h
    k_steps
    refine' h _ _ _ ?kF ?kN; (case kF => assumption); (case kN => assumption)
  · have h := fun h' tk nk' => h h' tk _ nk' rfl hl.1 hl.2.1 hl.2.2
    rw [putS_ge hlt] at h
    k_steps
    refine' h _ _ _ ?kF ?kN; (case kF => assumption); (case kN => assumption)
end
end
-- A_top
section
local macro_rules | `(tactic| walk_at "none such") => `(tactic| skip)
section
variable {prog : Program} {w : World} {A A₀ : Around} {base : Heap} {outer : List Env} {env : Env} {h₀ : Heap} {L : Addr} {m : Str → Option Value} {mean : ExcName → Option Value} {mg mb : Str → Option Value} {loose : List Str} {E : Value → Shared → Prop} {s : Shared} {Q : Value → Shared → Prop}
  (B : Below A₀ base outer h₀) (F : Fr h₀ L s.heap m) (X : (kK w.params).In h₀) (T : Top kQ loose mean mg mb h₀) (hA : A.frames = some (env :: outer)) (hf : env.frame = some L) (hke : env.scope.kind = .function) (hH : A.handled = none) (hd : A.depth ≤ 490) (hu : A.units ≤ 4900)
  {kt ks : Nat → Tok} {sy rows md mm sd st hp sk tr xl ro ba : Addr} {t1 t2 t3 tb0 tmd tms tcp te tb ts1 thb tbb : Tok} {cp e b hbv bbv : Int} {nk nh nt nx nr : Nat} {stk hpv xs rws : List Value} {tl : List (Addr × Obj)}
  (G : Geo rows md mm sd st hp sk tr xl tl) (N : News h₀ L s.heap ((mm, instObj 534 md) :: (md, dictOf (mD w kt sy rows st xl ro ba t1 t2 t3 tb0 tmd tms cp tcp e te b tb) 18) :: (st, instObj 374 sd) :: (sd, dictOf (sD w ks sy hp sk tr ts1 hbv thb bbv tbb) 7) :: (sk, W.listOf (List.toArray stk) nk) :: (hp, W.listOf (List.toArray hpv) nh) :: (tr, W.listOf #[] nt) :: (xl, W.listOf (List.toArray xs) nx) :: (rows, W.listOf (List.toArray rws) nr) :: tl))
include B F X T hA hf hke hH hd hu G N
theorem c_top {v : Int} (hv : TopIs e b cp stk rws tl v)
    (h : ∀ h' tk tk0, Fr h₀ L h' m → News h₀ L h' ((mm, instObj 534 md) :: (md, dictOf (mD w kt sy rows st xl ro ba t1 t2 t3 tb0 tmd tms cp tcp e te b tb) 18) :: (st, instObj 374 sd) :: (sd, dictOf (sD w ks sy hp sk tr ts1 hbv thb bbv tbb) 7) :: (sk, W.listOf (List.toArray stk) nk) :: (hp, W.listOf (List.toArray hpv) nh) :: (tr, W.listOf #[] nt) :: (xl, W.listOf (List.toArray xs) nx) :: (rows, W.listOf (List.toArray rws) nr) :: tl) → Q (.int v tk0) { s with heap := h', toks := tk }) :
    wpAny (model prog w) A (call (.ref 447) [.ref mm]) Q E s := by
  obtain ⟨o1, o2, o3, o4, o5, o6, o7, o8, hT⟩ := id G
  obtain ⟨g2, g3, g4, g5, g6, g7, g8⟩ := G.lts
  rcases hv with ⟨h1, r, z, tz, tc, t0, n, hr, hm, rfl⟩ | ⟨h1, h2, c, tc, hc, rfl⟩ | ⟨h1, h2, rfl⟩
  · k_steps
    refine' h _ _ _ ?kF ?kN; (case kF => assumption); (case kN => assumption)
  · k_steps
    refine' h _ _ _ ?kF ?kN; (case kF => assumption); (case kN => assumption)
  · k_steps
    refine' h _ _ _ ?kF ?kN; (case kF => assumption); (case kN => assumption)
end
end
-- A_penv
section
local macro_rules | `(tactic| walk_at "none such") => `(tactic| skip)
local macro_rules | `(tactic| walk_at "none such") => `(tactic| skip)
section
variable {prog : Program} {w : World} {A A₀ : Around} {base : Heap} {outer : List Env} {env : Env} {h₀ : Heap} {L : Addr} {m : Str → Option Value} {mean : ExcName → Option Value} {mg mb : Str → Option Value} {loose : List Str} {E : Value → Shared → Prop} {s : Shared} {Q : Value → Shared → Prop}
  (B : Below A₀ base outer h₀) (F : Fr h₀ L s.heap m) (X : (kK w.params).In h₀) (T : Top kQ loose mean mg mb h₀) (hA : A.frames = some (env :: outer)) (hf : env.frame = some L) (hke : env.scope.kind = .function) (hH : A.handled = none) (hd : A.depth ≤ 480) (hu : A.units ≤ 4800)
  {kt ks : Nat → Tok} {sy rows md mm sd st hp sk tr xl ro ba : Addr} {t1 t2 t3 tb0 tmd tms tcp te tb ts1 thb tbb : Tok} {cp e b hbv bbv : Int} {nk nh nt nx nr : Nat} {stk hpv xs rws : List Value} {tl : List (Addr × Obj)}
  (G : Geo rows md mm sd st hp sk tr xl tl) (N : News h₀ L s.heap ((mm, instObj 534 md) :: (md, dictOf (mD w kt sy rows st xl ro ba t1 t2 t3 tb0 tmd tms cp tcp e te b tb) 18) :: (st, instObj 374 sd) :: (sd, dictOf (sD w ks sy hp sk tr ts1 hbv thb bbv tbb) 7) :: (sk, W.listOf (List.toArray stk) nk) :: (hp, W.listOf (List.toArray hpv) nh) :: (tr, W.listOf #[] nt) :: (xl, W.listOf (List.toArray xs) nx) :: (rows, W.listOf (List.toArray rws) nr) :: tl))
include B F X T hA hf hke hH hd hu G N
theorem c_penv {v z : Int} {tz : Tok} (hv : TopIs e b cp stk rws tl v) (h0 : 0 ≤ v) (hi : v ≤ stk.length) (hz : stk.length ≤ 900000) (hz0 : 0 ≤ z) (hz3 : z ≤ 3)
    (h : ∀ h' tk te' stk' nk', stk' = putL stk v (.int e te :: .int cp tcp :: List.replicate z.toNat (.ref 180)) → Fr h₀ L h' m → News h₀ L h' ((mm, instObj 534 md) :: (md, dictOf (mD w kt sy rows st xl ro ba t1 t2 t3 tb0 tmd tms cp tcp v te' b tb) 18) :: (st, instObj 374 sd) :: (sd, dictOf (sD w ks sy hp sk tr ts1 hbv thb bbv tbb) 7) :: (sk, W.listOf (List.toArray stk') nk') :: (hp, W.listOf (List.toArray hpv) nh) :: (tr, W.listOf #[] nt) :: (xl, W.listOf (List.toArray xs) nx) :: (rows, W.listOf (List.toArray rws) nr) :: tl) → Q .none { s with heap := h', toks := tk }) :
    wpAny (model prog w) A (call (.ref 454) [.ref mm, .int z tz]) Q E s := by
  obtain ⟨o1, o2, o3, o4, o5, o6, o7, o8, hT⟩ := id G
  obtain ⟨g2, g3, g4, g5, g6, g7, g8⟩ := G.lts
  repeat' (first | (k_unfold; (try dsimp only)) | ((with_reducible show wpAny _ _ (call (Value.ref _) _) _ _ _); first | ((with_reducible show wpAny _ _ (call (Value.ref 447) _) _ _ _); (k_dflt (refine' c_top ?B ?F ?X ?T ?hA ?hf ?hke ?hH ?hd ?hu ?G ?N ?x0 ?_; (case N => tb_rel); (case B => k_asm); (case F => k_asm); (case X => k_asm); (case T => k_asm); (case hA => tb_start); (case hf => tb_start); (case hke => tb_start); (case hH => assumption); (case hd => ktr_room); (case hu => ktr_room); (case G => ktr_rel); (case x0 => first | assumption | ((repeat refine len_step (by assumption) ?_ (by rfl)); exact Nat.le_of_ble_eq_true (by rfl)) | omega); k_whole); (try dsimp only); intro _ _ _ _ _; (try k_sweep))) | ((with_reducible show wpAny _ _ (call (Value.ref 279) _) _ _ _); (k_dflt (refine' c_put ?B ?F ?X ?T ?hA ?hf ?hke ?hH ?hd ?hu ?G ?N ?x0 ?x1 ?x2 ?_; (case N => tb_rel); (case B => k_asm); (case F => k_asm); (case X => k_asm); (case T => k_asm); (case hA => tb_start); (case hf => tb_start); (case hke => tb_start); (case hH => assumption); (case hd => ktr_room); (case hu => ktr_room); (case G => ktr_rel); (case x0 => first | assumption | ((repeat refine len_step (by assumption) ?_ (by rfl)); exact Nat.le_of_ble_eq_true (by rfl)) | omega); (case x1 => first | assumption | ((repeat refine len_step (by assumption) ?_ (by rfl)); exact Nat.le_of_ble_eq_true (by rfl)) | omega); (case x2 => first | assumption | ((repeat refine len_step (by assumption) ?_ (by rfl)); exact Nat.le_of_ble_eq_true (by rfl)) | omega); k_whole); (try dsimp only); intro _ _ _ _ _ _ _ _ _ _; (try k_sweep)))) | walk1 | (dsimp only; walk1) | (leave1; walk_say "STEP leave1"; try dsimp only) | fail "no step")
  rename_i hsA0 _ _ _ _ _ stkA nkA hsA hA1 hA2 hA3 hh tk9 t9 u9 v9 R9 F9 N9 a9
  refine' rangeS (n := z.toNat) (fun _ => _) (fun q : List Value × Nat => ((mm, instObj 534 md) :: (md, dictOf (mD w kt sy rows st xl ro ba t1 t2 t3 tb0 tmd tms cp tcp e te b tb) 18) :: (st, instObj 374 sd) :: (sd, dictOf (sD w ks sy hp sk tr ts1 hbv thb bbv tbb) 7) :: (sk, W.listOf (List.toArray q.1) q.2) :: (hp, W.listOf (List.toArray hpv) nh) :: (tr, W.listOf #[] nt) :: (xl, W.listOf (List.toArray xs) nx) :: (rows, W.listOf (List.toArray rws) nr) :: tl)) (fun i q => q.1 = putL stkA (v + 2) (List.replicate i (.ref 180)) ∧ v + 2 + i ≤ q.1.length ∧ q.1.length ≤ stkA.length + i) (stkA, nkA) hH R9 (small1 hz0 (by omega)) (size1 hz0) F9 N9 (fun _ _ => rfl) rfl ⟨rfl, by dsimp only; omega, by dsimp only; omega⟩ ?turn ?done
  case turn =>
    rintro i ⟨stkB, nkB⟩ t h' tk' I it hi' ⟨hB, hB1, hB2⟩ ho hI F' N'
    k_lt hI
    dsimp only [envOf] at hB hB1 hB2 ho F' N'
    have hBz : stkB.length ≤ 900200 := by omega
    clear N9 F9
    repeat' (first | (k_unfold; (try dsimp only)) | ((with_reducible show wpAny _ _ (call (Value.ref _) _) _ _ _); first | ((with_reducible show wpAny _ _ (call (Value.ref 447) _) _ _ _); (k_dflt (refine' c_top ?B ?F ?X ?T ?hA ?hf ?hke ?hH ?hd ?hu ?G ?N ?x0 ?_; (case N => tb_rel); (case B => k_asm); (case F => k_asm); (case X => k_asm); (case T => k_asm); (case hA => tb_start); (case hf => tb_start); (case hke => tb_start); (case hH => assumption); (case hd => ktr_room); (case hu => ktr_room); (case G => ktr_rel); (case x0 => first | assumption | ((repeat refine len_step (by assumption) ?_ (by rfl)); exact Nat.le_of_ble_eq_true (by rfl)) | omega); k_whole); (try dsimp only); intro _ _ _ _ _; (try k_sweep))) | ((with_reducible show wpAny _ _ (call (Value.ref 279) _) _ _ _); (k_dflt (refine' c_put ?B ?F ?X ?T ?hA ?hf ?hke ?hH ?hd ?hu ?G ?N ?x0 ?x1 ?x2 ?_; (case N => tb_rel); (case B => k_asm); (case F => k_asm); (case X => k_asm); (case T => k_asm); (case hA => tb_start); (case hf => tb_start); (case hke => tb_start); (case hH => assumption); (case hd => ktr_room); (case hu => ktr_room); (case G => ktr_rel); (case x0 => first | assumption | ((repeat refine len_step (by assumption) ?_ (by rfl)); exact Nat.le_of_ble_eq_true (by rfl)) | omega); (case x1 => first | assumption | ((repeat refine len_step (by assumption) ?_ (by rfl)); exact Nat.le_of_ble_eq_true (by rfl)) | omega); (case x2 => first | assumption | ((repeat refine len_step (by assumption) ?_ (by rfl)); exact Nat.le_of_ble_eq_true (by rfl)) | omega); k_whole); (try dsimp only); intro _ _ _ _ _ _ _ _ _ _; (try k_sweep)))) | walk1 | (dsimp only; walk1) | (leave1; walk_say "STEP leave1"; try dsimp only) | fail "no step")
    rename_i h3 tk3 stkC nkC hC hC1 hC2 hC3 F3 N3
    try dsimp only [LpPost]
    refine LpEnd.intro (stkC, nkC) F3 (fun y hy => if_neg hy) (News.mv9 N3) (off_same ho) ⟨?_, by dsimp only; push_cast; omega, by dsimp only; omega⟩
    dsimp only
    rw [List.replicate_succ', putL_snoc, ← hB, hC, List.length_replicate]
    congr 1
    omega
  case done =>
    rintro ⟨stkB, nkB⟩ u h' tk' ⟨hB, hB1, hB2⟩ F' N'
    dsimp only [envOf] at hB hB1 hB2 F' N'
    clear N9 F9
    have e9 : stkB = putL stk v (.int e te :: .int cp tcp :: List.replicate z.toNat (.ref 180)) := by
      rw [putL, putL, ← hsA0, ← hsA, hB]
      congr 1
      omega
    repeat' (first | (k_unfold; (try dsimp only)) | ((with_reducible show wpAny _ _ (call (Value.ref _) _) _ _ _); first | ((with_reducible show wpAny _ _ (call (Value.ref 447) _) _ _ _); (k_dflt (refine' c_top ?B ?F ?X ?T ?hA ?hf ?hke ?hH ?hd ?hu ?G ?N ?x0 ?_; (case N => tb_rel); (case B => k_asm); (case F => k_asm); (case X => k_asm); (case T => k_asm); (case hA => tb_start); (case hf => tb_start); (case hke => tb_start); (case hH => assumption); (case hd => ktr_room); (case hu => ktr_room); (case G => ktr_rel); (case x0 => first | assumption | ((repeat refine len_step (by assumption) ?_ (by rfl)); exact Nat.le_of_ble_eq_true (by rfl)) | omega); k_whole); (try dsimp only); intro _ _ _ _ _; (try k_sweep))) | ((with_reducible show wpAny _ _ (call (Value.ref 279) _) _ _ _); (k_dflt (refine' c_put ?B ?F ?X ?T ?hA ?hf ?hke ?hH ?hd ?hu ?G ?N ?x0 ?x1 ?x2 ?_; (case N => tb_rel); (case B => k_asm); (case F => k_asm); (case X => k_asm); (case T => k_asm); (case hA => tb_start); (case hf => tb_start); (case hke => tb_start); (case hH => assumption); (case hd => ktr_room); (case hu => ktr_room); (case G => ktr_rel); (case x0 => first | assumption | ((repeat refine len_step (by assumption) ?_ (by rfl)); exact Nat.le_of_ble_eq_true (by rfl)) | omega); (case x1 => first | assumption | ((repeat refine len_step (by assumption) ?_ (by rfl)); exact Nat.le_of_ble_eq_true (by rfl)) | omega); (case x2 => first | assumption | ((repeat refine len_step (by assumption) ?_ (by rfl)); exact Nat.le_of_ble_eq_true (by rfl)) | omega); k_whole); (try dsimp only); intro _ _ _ _ _ _ _ _ _ _; (try k_sweep)))) | walk1 | (dsimp only; walk1) | (leave1; walk_say "STEP leave1"; try dsimp only) | fail "no step")
    refine' h _ _ _ _ _ e9 ?kF ?kN; (case kF => assumption); (case kN => assumption)
end
end
-- A_popenv
section
local macro_rules | `(tactic| walk_at "none such") => `(tactic| skip)
local macro_rules | `(tactic| walk_at "none such") => `(tactic| skip)
local macro_rules | `(tactic| walk_at "none such") => `(tactic| skip)
section
variable {prog : Program} {w : World} {A A₀ : Around} {base : Heap} {outer : List Env} {env : Env} {h₀ : Heap} {L : Addr} {m : Str → Option Value} {mean : ExcName → Option Value} {mg mb : Str → Option Value} {loose : List Str} {E : Value → Shared → Prop} {s : Shared} {Q : Value → Shared → Prop}
  (B : Below A₀ base outer h₀) (F : Fr h₀ L s.heap m) (X : (kK w.params).In h₀) (T : Top kQ loose mean mg mb h₀) (hA : A.frames = some (env :: outer)) (hf : env.frame = some L) (hke : env.scope.kind = .function) (hH : A.handled = none) (hd : A.depth ≤ 490) (hu : A.units ≤ 4900)
  {kt ks : Nat → Tok} {sy rows md mm sd st hp sk tr xl ro ba : Addr} {t1 t2 t3 tb0 tmd tms tcp te tb ts1 thb tbb : Tok} {cp e b hbv bbv : Int} {nk nh nt nx nr : Nat} {stk hpv xs rws : List Value} {tl : List (Addr × Obj)}
  (G : Geo rows md mm sd st hp sk tr xl tl) (N : News h₀ L s.heap ((mm, instObj 534 md) :: (md, dictOf (mD w kt sy rows st xl ro ba t1 t2 t3 tb0 tmd tms cp tcp e te b tb) 18) :: (st, instObj 374 sd) :: (sd, dictOf (sD w ks sy hp sk tr ts1 hbv thb bbv tbb) 7) :: (sk, W.listOf (List.toArray stk) nk) :: (hp, W.listOf (List.toArray hpv) nh) :: (tr, W.listOf #[] nt) :: (xl, W.listOf (List.toArray xs) nx) :: (rows, W.listOf (List.toArray rws) nr) :: tl))
include B F X T hA hf hke hH hd hu G N
theorem c_popenv {cp' e' : Int} {tcp' te' : Tok} (h1 : At stk (e + 1) (.int cp' tcp')) (h2 : At stk e (.int e' te'))
    (h : ∀ h' tk, Fr h₀ L h' m → News h₀ L h' ((mm, instObj 534 md) :: (md, dictOf (mD w kt sy rows st xl ro ba t1 t2 t3 tb0 tmd tms cp' tcp' e' te' b tb) 18) :: (st, instObj 374 sd) :: (sd, dictOf (sD w ks sy hp sk tr ts1 hbv thb bbv tbb) 7) :: (sk, W.listOf (List.toArray stk) nk) :: (hp, W.listOf (List.toArray hpv) nh) :: (tr, W.listOf #[] nt) :: (xl, W.listOf (List.toArray xs) nx) :: (rows, W.listOf (List.toArray rws) nr) :: tl) → Q .none { s with heap := h', toks := tk }) :
    wpAny (model prog w) A (call (.ref 461) [.ref mm]) Q E s := by
  obtain ⟨o1, o2, o3, o4, o5, o6, o7, o8, hT⟩ := id G
  obtain ⟨g2, g3, g4, g5, g6, g7, g8⟩ := G.lts
  k_steps
  refine' h _ _ ?kF ?kN; (case kF => assumption); (case kN => assumption)
end
end
-- A_setch
section
section
variable {prog : Program} {w : World} {A A₀ : Around} {base : Heap} {outer : List Env} {env : Env} {h₀ : Heap} {L : Addr} {m : Str → Option Value} {mean : ExcName → Option Value} {mg mb : Str → Option Value} {loose : List Str} {E : Value → Shared → Prop} {s : Shared} {Q : Value → Shared → Prop}
  (B : Below A₀ base outer h₀) (F : Fr h₀ L s.heap m) (X : (kK w.params).In h₀) (T : Top kQ loose mean mg mb h₀) (hA : A.frames = some (env :: outer)) (hf : env.frame = some L) (hke : env.scope.kind = .function) (hH : A.handled = none) (hd : A.depth ≤ 470) (hu : A.units ≤ 4700)
  {kt ks : Nat → Tok} {sy rows md mm sd st hp sk tr xl ro ba : Addr} {t1 t2 t3 tb0 tmd tms tcp te tb ts1 thb tbb : Tok} {cp e b hbv bbv : Int} {nk nh nt nx nr : Nat} {stk hpv xs rws : List Value} {tl : List (Addr × Obj)}
  (G : Geo rows md mm sd st hp sk tr xl tl) (N : News h₀ L s.heap ((mm, instObj 534 md) :: (md, dictOf (mD w kt sy rows st xl ro ba t1 t2 t3 tb0 tmd tms cp tcp e te b tb) 18) :: (st, instObj 374 sd) :: (sd, dictOf (sD w ks sy hp sk tr ts1 hbv thb bbv tbb) 7) :: (sk, W.listOf (List.toArray stk) nk) :: (hp, W.listOf (List.toArray hpv) nh) :: (tr, W.listOf #[] nt) :: (xl, W.listOf (List.toArray xs) nx) :: (rows, W.listOf (List.toArray rws) nr) :: tl))
include B F X T hA hf hke hH hd hu G N
theorem c_setch {b' : Int} {tb' : Tok} (hb : b' < 0 ∨ ∃ c tc x tx, At stk b' (.int c tc) ∧ At stk (b' + c + 6) (.int x tx))
    (h : ∀ h' tk hb' thb' bb' tbb', Fr h₀ L h' m → News h₀ L h' ((mm, instObj 534 md) :: (md, dictOf (mD w kt sy rows st xl ro ba t1 t2 t3 tb0 tmd tms cp tcp e te b' tb') 18) :: (st, instObj 374 sd) :: (sd, dictOf (sD w ks sy hp sk tr ts1 hb' thb' bb' tbb') 7) :: (sk, W.listOf (List.toArray stk) nk) :: (hp, W.listOf (List.toArray hpv) nh) :: (tr, W.listOf #[] nt) :: (xl, W.listOf (List.toArray xs) nx) :: (rows, W.listOf (List.toArray rws) nr) :: tl) → Q .none { s with heap := h', toks := tk }) :
    wpAny (model prog w) A (call (.ref 475) [.ref mm, .int b' tb']) Q E s := by
  obtain ⟨o1, o2, o3, o4, o5, o6, o7, o8, hT⟩ := id G
  obtain ⟨g2, g3, g4, g5, g6, g7, g8⟩ := G.lts
  rcases hb with hb | ⟨c, tc, x, tx, h1, h2⟩
  · k_steps
    refine' h _ _ _ _ _ _ ?kF ?kN; (case kF => assumption); (case kN => assumption)
  · have hb0 := h1.1
    k_steps
    refine' h _ _ _ _ _ _ ?kF ?kN; (case kF => assumption); (case kN => assumption)
end
end
-- A_part
section
local macro_rules | `(tactic| walk_at "none such") => `(tactic| skip)
section
variable {prog : Program} {w : World} {A A₀ : Around} {base : Heap} {outer : List Env} {env : Env} {h₀ : Heap} {L : Addr} {m : Str → Option Value} {mean : ExcName → Option Value} {mg mb : Str → Option Value} {loose : List Str} {E : Value → Shared → Prop} {s : Shared} {Q : Value → Shared → Prop}
  (B : Below A₀ base outer h₀) (F : Fr h₀ L s.heap m) (X : (kK w.params).In h₀) (T : Top kQ loose mean mg mb h₀) (hA : A.frames = some (env :: outer)) (hf : env.frame = some L) (hke : env.scope.kind = .function) (hH : A.handled = none) (hd : A.depth ≤ 480) (hu : A.units ≤ 4800)
  {kt ks : Nat → Tok} {sy rows md mm sd st hp sk tr xl ro ba : Addr} {t1 t2 t3 tb0 tmd tms tcp te tb ts1 thb tbb : Tok} {cp e b hbv bbv : Int} {nk nh nt nx nr : Nat} {stk hpv xs rws : List Value} {tl : List (Addr × Obj)}
  (G : Geo rows md mm sd st hp sk tr xl tl) (N : News h₀ L s.heap ((mm, instObj 534 md) :: (md, dictOf (mD w kt sy rows st xl ro ba t1 t2 t3 tb0 tmd tms cp tcp e te b tb) 18) :: (st, instObj 374 sd) :: (sd, dictOf (sD w ks sy hp sk tr ts1 hbv thb bbv tbb) 7) :: (sk, W.listOf (List.toArray stk) nk) :: (hp, W.listOf (List.toArray hpv) nh) :: (tr, W.listOf #[] nt) :: (xl, W.listOf (List.toArray xs) nx) :: (rows, W.listOf (List.toArray rws) nr) :: tl))
include B F X T hA hf hke hH hd hu G N
theorem c_part {k c : Int} {tk0 tc : Tok} {v : Value} (h1 : At stk b (.int c tc)) (h2 : At stk (b + c + k) v)
    (h : ∀ h' tk, Fr h₀ L h' m → News h₀ L h' ((mm, instObj 534 md) :: (md, dictOf (mD w kt sy rows st xl ro ba t1 t2 t3 tb0 tmd tms cp tcp e te b tb) 18) :: (st, instObj 374 sd) :: (sd, dictOf (sD w ks sy hp sk tr ts1 hbv thb bbv tbb) 7) :: (sk, W.listOf (List.toArray stk) nk) :: (hp, W.listOf (List.toArray hpv) nh) :: (tr, W.listOf #[] nt) :: (xl, W.listOf (List.toArray xs) nx) :: (rows, W.listOf (List.toArray rws) nr) :: tl) → Q v { s with heap := h', toks := tk }) :
    wpAny (model prog w) A (call (.ref 496) [.ref mm, .int k tk0]) Q E s := by
  obtain ⟨o1, o2, o3, o4, o5, o6, o7, o8, hT⟩ := id G
  obtain ⟨g2, g3, g4, g5, g6, g7, g8⟩ := G.lts
  k_steps
  refine' h _ _ ?kF ?kN; (case kF => assumption); (case kN => assumption)
end
end
-- A_setalt
section
local macro_rules | `(tactic| walk_at "none such") => `(tactic| skip)
local macro_rules | `(tactic| walk_at "none such") => `(tactic| skip)
section
variable {prog : Program} {w : World} {A A₀ : Around} {base : Heap} {outer : List Env} {env : Env} {h₀ : Heap} {L : Addr} {m : Str → Option Value} {mean : ExcName → Option Value} {mg mb : Str → Option Value} {loose : List Str} {E : Value → Shared → Prop} {s : Shared} {Q : Value → Shared → Prop}
  (B : Below A₀ base outer h₀) (F : Fr h₀ L s.heap m) (X : (kK w.params).In h₀) (T : Top kQ loose mean mg mb h₀) (hA : A.frames = some (env :: outer)) (hf : env.frame = some L) (hke : env.scope.kind = .function) (hH : A.handled = none) (hd : A.depth ≤ 490) (hu : A.units ≤ 4900)
  {kt ks : Nat → Tok} {sy rows md mm sd st hp sk tr xl ro ba : Addr} {t1 t2 t3 tb0 tmd tms tcp te tb ts1 thb tbb : Tok} {cp e b hbv bbv : Int} {nk nh nt nx nr : Nat} {stk hpv xs rws : List Value} {tl : List (Addr × Obj)}
  (G : Geo rows md mm sd st hp sk tr xl tl) (N : News h₀ L s.heap ((mm, instObj 534 md) :: (md, dictOf (mD w kt sy rows st xl ro ba t1 t2 t3 tb0 tmd tms cp tcp e te b tb) 18) :: (st, instObj 374 sd) :: (sd, dictOf (sD w ks sy hp sk tr ts1 hbv thb bbv tbb) 7) :: (sk, W.listOf (List.toArray stk) nk) :: (hp, W.listOf (List.toArray hpv) nh) :: (tr, W.listOf #[] nt) :: (xl, W.listOf (List.toArray xs) nx) :: (rows, W.listOf (List.toArray rws) nr) :: tl))
include B F X T hA hf hke hH hd hu G N
theorem c_setalt {c : Int} {tc : Tok} {v : Value} (h1 : At stk b (.int c tc)) (h2 : 0 ≤ b + c + 4) (h3 : b + c + 4 < stk.length) (h4 : stk.length ≤ 1000000)
    (h : ∀ h' tk, Fr h₀ L h' m → News h₀ L h' ((mm, instObj 534 md) :: (md, dictOf (mD w kt sy rows st xl ro ba t1 t2 t3 tb0 tmd tms cp tcp e te b tb) 18) :: (st, instObj 374 sd) :: (sd, dictOf (sD w ks sy hp sk tr ts1 hbv thb bbv tbb) 7) :: (sk, W.listOf (List.toArray (stk.set (b + c + 4).toNat v)) nk) :: (hp, W.listOf (List.toArray hpv) nh) :: (tr, W.listOf #[] nt) :: (xl, W.listOf (List.toArray xs) nx) :: (rows, W.listOf (List.toArray rws) nr) :: tl) → Q .none { s with heap := h', toks := tk }) :
    wpAny (model prog w) A (call (.ref 489) [.ref mm, v]) Q E s := by
  obtain ⟨o1, o2, o3, o4, o5, o6, o7, o8, hT⟩ := id G
  obtain ⟨g2, g3, g4, g5, g6, g7, g8⟩ := G.lts
  k_steps
  refine' h _ _ ?kF ?kN; (case kF => assumption); (case kN => assumption)
end
end
-- A_popch
section
local macro_rules | `(tactic| walk_at "none such") => `(tactic| skip)
local macro_rules | `(tactic| walk_at "none such") => `(tactic| skip)
local macro_rules | `(tactic| walk_at "none such") => `(tactic| skip)
section
variable {prog : Program} {w : World} {A A₀ : Around} {base : Heap} {outer : List Env} {env : Env} {h₀ : Heap} {L : Addr} {m : Str → Option Value} {mean : ExcName → Option Value} {mg mb : Str → Option Value} {loose : List Str} {E : Value → Shared → Prop} {s : Shared} {Q : Value → Shared → Prop}
  (B : Below A₀ base outer h₀) (F : Fr h₀ L s.heap m) (X : (kK w.params).In h₀) (T : Top kQ loose mean mg mb h₀) (hA : A.frames = some (env :: outer)) (hf : env.frame = some L) (hke : env.scope.kind = .function) (hH : A.handled = none) (hd : A.depth ≤ 460) (hu : A.units ≤ 4600)
  {kt ks : Nat → Tok} {sy rows md mm sd st hp sk tr xl ro ba : Addr} {t1 t2 t3 tb0 tmd tms tcp te tb ts1 thb tbb : Tok} {cp e b hbv bbv : Int} {nk nh nt nx nr : Nat} {stk hpv xs rws : List Value} {tl : List (Addr × Obj)}
  (G : Geo rows md mm sd st hp sk tr xl tl) (N : News h₀ L s.heap ((mm, instObj 534 md) :: (md, dictOf (mD w kt sy rows st xl ro ba t1 t2 t3 tb0 tmd tms cp tcp e te b tb) 18) :: (st, instObj 374 sd) :: (sd, dictOf (sD w ks sy hp sk tr ts1 hbv thb bbv tbb) 7) :: (sk, W.listOf (List.toArray stk) nk) :: (hp, W.listOf (List.toArray hpv) nh) :: (tr, W.listOf #[] nt) :: (xl, W.listOf (List.toArray xs) nx) :: (rows, W.listOf (List.toArray rws) nr) :: tl))
include B F X T hA hf hke hH hd hu G N
theorem c_popch {b' c : Int} {tb' tc : Tok} (h1 : At stk b (.int c tc)) (h2 : At stk (b + c + 3) (.int b' tb')) (hb : b' < 0 ∨ ∃ c tc x tx, At stk b' (.int c tc) ∧ At stk (b' + c + 6) (.int x tx))
    (h : ∀ h' tk hb' thb' bb' tbb', Fr h₀ L h' m → News h₀ L h' ((mm, instObj 534 md) :: (md, dictOf (mD w kt sy rows st xl ro ba t1 t2 t3 tb0 tmd tms cp tcp e te b' tb') 18) :: (st, instObj 374 sd) :: (sd, dictOf (sD w ks sy hp sk tr ts1 hb' thb' bb' tbb') 7) :: (sk, W.listOf (List.toArray stk) nk) :: (hp, W.listOf (List.toArray hpv) nh) :: (tr, W.listOf #[] nt) :: (xl, W.listOf (List.toArray xs) nx) :: (rows, W.listOf (List.toArray rws) nr) :: tl) → Q .none { s with heap := h', toks := tk }) :
    wpAny (model prog w) A (call (.ref 510) [.ref mm]) Q E s := by
  obtain ⟨o1, o2, o3, o4, o5, o6, o7, o8, hT⟩ := id G
  obtain ⟨g2, g3, g4, g5, g6, g7, g8⟩ := G.lts
  repeat' (first | (k_unfold; (try dsimp only)) | ((with_reducible show wpAny _ _ (call (Value.ref _) _) _ _ _); first | ((with_reducible show wpAny _ _ (call (Value.ref 475) _) _ _ _); (k_dflt (refine' c_setch ?B ?F ?X ?T ?hA ?hf ?hke ?hH ?hd ?hu ?G ?N ?x0 ?_; (case N => tb_rel); (case B => k_asm); (case F => k_asm); (case X => k_asm); (case T => k_asm); (case hA => tb_start); (case hf => tb_start); (case hke => tb_start); (case hH => assumption); (case hd => ktr_room); (case hu => ktr_room); (case G => ktr_rel); (case x0 => first | assumption | exact Or.inr ⟨_, _, _, _, by assumption, by assumption⟩); k_whole); (try dsimp only); intro _ _ _ _ _ _ _ _; (try k_sweep))) | ((with_reducible show wpAny _ _ (call (Value.ref 496) _) _ _ _); (k_dflt (refine' c_part ?B ?F ?X ?T ?hA ?hf ?hke ?hH ?hd ?hu ?G ?N ?x0 ?x1 ?_; (case N => tb_rel); (case B => k_asm); (case F => k_asm); (case X => k_asm); (case T => k_asm); (case hA => tb_start); (case hf => tb_start); (case hke => tb_start); (case hH => assumption); (case hd => ktr_room); (case hu => ktr_room); (case G => ktr_rel); (case x0 => first | assumption | ((repeat refine len_step (by assumption) ?_ (by rfl)); exact Nat.le_of_ble_eq_true (by rfl)) | omega); (case x1 => first | assumption | ((repeat refine len_step (by assumption) ?_ (by rfl)); exact Nat.le_of_ble_eq_true (by rfl)) | omega); k_whole); (try dsimp only); intro _ _ _ _; (try k_sweep)))) | walk1 | (dsimp only; walk1) | (leave1; walk_say "STEP leave1"; try dsimp only) | fail "no step")
  refine' h _ _ _ _ _ _ ?kF ?kN; (case kF => assumption); (case kN => assumption)
end
end
-- A_cut
section
section
variable {prog : Program} {w : World} {A A₀ : Around} {base : Heap} {outer : List Env} {env : Env} {h₀ : Heap} {L : Addr} {m : Str → Option Value} {mean : ExcName → Option Value} {mg mb : Str → Option Value} {loose : List Str} {E : Value → Shared → Prop} {s : Shared} {Q : Value → Shared → Prop}
  (B : Below A₀ base outer h₀) (F : Fr h₀ L s.heap m) (X : (kK w.params).In h₀) (T : Top kQ loose mean mg mb h₀) (hA : A.frames = some (env :: outer)) (hf : env.frame = some L) (hke : env.scope.kind = .function) (hH : A.handled = none) (hd : A.depth ≤ 460) (hu : A.units ≤ 4600)
  {kt ks : Nat → Tok} {sy rows md mm sd st hp sk tr xl ro ba : Addr} {t1 t2 t3 tb0 tmd tms tcp te tb ts1 thb tbb : Tok} {cp e b hbv bbv : Int} {nk nh nt nx nr : Nat} {stk hpv xs rws : List Value} {tl : List (Addr × Obj)}
  (G : Geo rows md mm sd st hp sk tr xl tl) (N : News h₀ L s.heap ((mm, instObj 534 md) :: (md, dictOf (mD w kt sy rows st xl ro ba t1 t2 t3 tb0 tmd tms cp tcp e te b tb) 18) :: (st, instObj 374 sd) :: (sd, dictOf (sD w ks sy hp sk tr ts1 hbv thb bbv tbb) 7) :: (sk, W.listOf (List.toArray stk) nk) :: (hp, W.listOf (List.toArray hpv) nh) :: (tr, W.listOf #[] nt) :: (xl, W.listOf (List.toArray xs) nx) :: (rows, W.listOf (List.toArray rws) nr) :: tl))
include B F X T hA hf hke hH hd hu G N
theorem c_cut {b' : Int} {tb' : Tok} (hb : b' < b → b' < 0 ∨ ∃ c tc x tx, At stk b' (.int c tc) ∧ At stk (b' + c + 6) (.int x tx)) (hle : b' ≤ b)
    (h : ∀ h' tk tb' hb' thb' bb' tbb', Fr h₀ L h' m → News h₀ L h' ((mm, instObj 534 md) :: (md, dictOf (mD w kt sy rows st xl ro ba t1 t2 t3 tb0 tmd tms cp tcp e te b' tb') 18) :: (st, instObj 374 sd) :: (sd, dictOf (sD w ks sy hp sk tr ts1 hb' thb' bb' tbb') 7) :: (sk, W.listOf (List.toArray stk) nk) :: (hp, W.listOf (List.toArray hpv) nh) :: (tr, W.listOf #[] nt) :: (xl, W.listOf (List.toArray xs) nx) :: (rows, W.listOf (List.toArray rws) nr) :: tl) → Q .none { s with heap := h', toks := tk }) :
    wpAny (model prog w) A (call (.ref 517) [.ref mm, .int b' tb']) Q E s := by
  obtain ⟨o1, o2, o3, o4, o5, o6, o7, o8, hT⟩ := id G
  obtain ⟨g2, g3, g4, g5, g6, g7, g8⟩ := G.lts
  by_cases hlt : b' < b
  · have hb := hb hlt
    repeat' (first | (k_unfold; (try dsimp only)) | ((with_reducible show wpAny _ _ (call (Value.ref _) _) _ _ _); first | ((with_reducible show wpAny _ _ (call (Value.ref 475) _) _ _ _); (k_dflt (refine' c_setch ?B ?F ?X ?T ?hA ?hf ?hke ?hH ?hd ?hu ?G ?N ?x0 ?_; (case N => tb_rel); (case B => k_asm); (case F => k_asm); (case X => k_asm); (case T => k_asm); (case hA => tb_start); (case hf => tb_start); (case hke => tb_start); (case hH => assumption); (case hd => ktr_room); (case hu => ktr_room); (case G => ktr_rel); (case x0 => first | assumption | exact Or.inr ⟨_, _, _, _, by assumption, by assumption⟩); k_whole); (try dsimp only); intro _ _ _ _ _ _ _ _; (try k_sweep)))) | walk1 | (dsimp only; walk1) | (leave1; walk_say "STEP leave1"; try dsimp only) | fail "no step")
    refine' h _ _ _ _ _ _ _ ?kF ?kN; (case kF => assumption); (case kN => assumption)
  · obtain rfl : b' = b := by omega
    repeat' (first | (k_unfold; (try dsimp only)) | ((with_reducible show wpAny _ _ (call (Value.ref _) _) _ _ _); first | ((with_reducible show wpAny _ _ (call (Value.ref 475) _) _ _ _); (k_dflt (refine' c_setch ?B ?F ?X ?T ?hA ?hf ?hke ?hH ?hd ?hu ?G ?N ?x0 ?_; (case N => tb_rel); (case B => k_asm); (case F => k_asm); (case X => k_asm); (case T => k_asm); (case hA => tb_start); (case hf => tb_start); (case hke => tb_start); (case hH => assumption); (case hd => ktr_room); (case hu => ktr_room); (case G => ktr_rel); (case x0 => first | assumption | exact Or.inr ⟨_, _, _, _, by assumption, by assumption⟩); k_whole); (try dsimp only); intro _ _ _ _ _ _ _ _; (try k_sweep)))) | walk1 | (dsimp only; walk1) | (leave1; walk_say "STEP leave1"; try dsimp only) | fail "no step")
    refine' h _ _ _ _ _ _ _ ?kF ?kN; (case kF => assumption); (case kN => assumption)
end
end
-- A_setx
section
local macro_rules | `(tactic| walk_at "none such") => `(tactic| skip)
section
variable {prog : Program} {w : World} {A A₀ : Around} {base : Heap} {outer : List Env} {env : Env} {h₀ : Heap} {L : Addr} {m : Str → Option Value} {mean : ExcName → Option Value} {mg mb : Str → Option Value} {loose : List Str} {E : Value → Shared → Prop} {s : Shared} {Q : Value → Shared → Prop}
  (B : Below A₀ base outer h₀) (F : Fr h₀ L s.heap m) (X : (kK w.params).In h₀) (T : Top kQ loose mean mg mb h₀) (hA : A.frames = some (env :: outer)) (hf : env.frame = some L) (hke : env.scope.kind = .function) (hH : A.handled = none) (hd : A.depth ≤ 480) (hu : A.units ≤ 4800)
  {kt ks : Nat → Tok} {sy rows md mm sd st hp sk tr xl ro ba : Addr} {t1 t2 t3 tb0 tmd tms tcp te tb ts1 thb tbb : Tok} {cp e b hbv bbv : Int} {nk nh nt nx nr : Nat} {stk hpv xs rws : List Value} {tl : List (Addr × Obj)}
  (G : Geo rows md mm sd st hp sk tr xl tl) (N : News h₀ L s.heap ((mm, instObj 534 md) :: (md, dictOf (mD w kt sy rows st xl ro ba t1 t2 t3 tb0 tmd tms cp tcp e te b tb) 18) :: (st, instObj 374 sd) :: (sd, dictOf (sD w ks sy hp sk tr ts1 hbv thb bbv tbb) 7) :: (sk, W.listOf (List.toArray stk) nk) :: (hp, W.listOf (List.toArray hpv) nh) :: (tr, W.listOf #[] nt) :: (xl, W.listOf (List.toArray xs) nx) :: (rows, W.listOf (List.toArray rws) nr) :: tl))
include B F X T hA hf hke hH hd hu G N
theorem c_setx {i : Int} {ti : Tok} {v : Value} (h0 : 0 ≤ i) (hi : i ≤ xs.length) (hz : xs.length ≤ 100000)
    (h : ∀ h' tk xs' nx', xs' = putS xs i v → Fr h₀ L h' m → News h₀ L h' ((mm, instObj 534 md) :: (md, dictOf (mD w kt sy rows st xl ro ba t1 t2 t3 tb0 tmd tms cp tcp e te b tb) 18) :: (st, instObj 374 sd) :: (sd, dictOf (sD w ks sy hp sk tr ts1 hbv thb bbv tbb) 7) :: (sk, W.listOf (List.toArray stk) nk) :: (hp, W.listOf (List.toArray hpv) nh) :: (tr, W.listOf #[] nt) :: (xl, W.listOf (List.toArray xs') nx') :: (rows, W.listOf (List.toArray rws) nr) :: tl) → Q .none { s with heap := h', toks := tk }) :
    wpAny (model prog w) A (call (.ref 405) [.ref mm, .int i ti, v]) Q E s := by
  obtain ⟨o1, o2, o3, o4, o5, o6, o7, o8, hT⟩ := id G
  obtain ⟨g2, g3, g4, g5, g6, g7, g8⟩ := G.lts
  by_cases hlt : i.toNat < xs.length
  · have h := fun h' tk nk' => h h' tk _ nk' rfl
    rw [putS_lt hlt] at h
    k_steps
    refine' h _ _ _ ?kF ?kN; (case kF => assumption); (case kN => assumption)
  · have h := fun h' tk nk' => h h' tk _ nk' rfl
    have e9 : putS xs i v = (xs ++ [Value.ref 180]).set i.toNat v := by
      have : i.toNat = xs.length := by omega
      rw [putS_ge hlt, this, List.set_append_right (h := Nat.le_refl _), Nat.sub_self]
      rfl
    rw [e9] at h
    k_steps
    refine' h _ _ _ ?kF ?kN; (case kF => assumption); (case kN => assumption)
end
end
-- A_newvar
section
local macro_rules | `(tactic| walk_at "none such") => `(tactic| skip)
local macro_rules | `(tactic| walk_at "none such") => `(tactic| skip)
section
variable {prog : Program} {w : World} {A A₀ : Around} {base : Heap} {outer : List Env} {env : Env} {h₀ : Heap} {L : Addr} {m : Str → Option Value} {mean : ExcName → Option Value} {mg mb : Str → Option Value} {loose : List Str} {E : Value → Shared → Prop} {s : Shared} {Q : Value → Shared → Prop}
  (B : Below A₀ base outer h₀) (F : Fr h₀ L s.heap m) (X : (kK w.params).In h₀) (T : Top kQ loose mean mg mb h₀) (hA : A.frames = some (env :: outer)) (hf : env.frame = some L) (hke : env.scope.kind = .function) (hH : A.handled = none) (hd : A.depth ≤ 480) (hu : A.units ≤ 4800)
  {kt ks : Nat → Tok} {sy rows md mm sd st hp sk tr xl ro ba : Addr} {t1 t2 t3 tb0 tmd tms tcp te tb ts1 thb tbb : Tok} {cp e b hbv bbv : Int} {nk nh nt nx nr : Nat} {stk hpv xs rws : List Value} {tl : List (Addr × Obj)}
  (G : Geo rows md mm sd st hp sk tr xl tl) (N : News h₀ L s.heap ((mm, instObj 534 md) :: (md, dictOf (mD w kt sy rows st xl ro ba t1 t2 t3 tb0 tmd tms cp tcp e te b tb) 18) :: (st, instObj 374 sd) :: (sd, dictOf (sD w ks sy hp sk tr ts1 hbv thb bbv tbb) 7) :: (sk, W.listOf (List.toArray stk) nk) :: (hp, W.listOf (List.toArray hpv) nh) :: (tr, W.listOf #[] nt) :: (xl, W.listOf (List.toArray xs) nx) :: (rows, W.listOf (List.toArray rws) nr) :: tl))
include B F X T hA hf hke hH hd hu G N
theorem c_newvar (hz : hpv.length ≤ 1000)
    (h : ∀ h' tk u nh' v, Fr h₀ L h' m → News h₀ L h' ((mm, instObj 534 md) :: (md, dictOf (mD w kt sy rows st xl ro ba t1 t2 t3 tb0 tmd tms cp tcp e te b tb) 18) :: (st, instObj 374 sd) :: (sd, dictOf (sD w ks sy hp sk tr ts1 hbv thb bbv tbb) 7) :: (sk, W.listOf (List.toArray stk) nk) :: (hp, W.listOf (List.toArray (hpv ++ [u])) nh') :: (tr, W.listOf #[] nt) :: (xl, W.listOf (List.toArray xs) nx) :: (rows, W.listOf (List.toArray rws) nr) :: tl) → Q v { s with heap := h', toks := tk }) :
    wpAny (model prog w) A (call (.ref 209) [.ref st]) Q E s := by
  obtain ⟨o1, o2, o3, o4, o5, o6, o7, o8, hT⟩ := id G
  obtain ⟨g2, g3, g4, g5, g6, g7, g8⟩ := G.lts
  k_steps
  rename News _ _ _ _ => N9
  have N9 := News.tail9 N9
  refine' h _ _ _ _ _ ?kF ?kN; (case kF => assumption); (case kN => assumption)
end
end
-- A_trim
section
local macro_rules | `(tactic| walk_at "none such") => `(tactic| skip)
local macro_rules | `(tactic| walk_at "none such") => `(tactic| skip)
local macro_rules | `(tactic| walk_at "none such") => `(tactic| skip)
section
variable {prog : Program} {w : World} {A A₀ : Around} {base : Heap} {outer : List Env} {env : Env} {h₀ : Heap} {L : Addr} {m : Str → Option Value} {mean : ExcName → Option Value} {mg mb : Str → Option Value} {loose : List Str} {E : Value → Shared → Prop} {s : Shared} {Q : Value → Shared → Prop}
  (B : Below A₀ base outer h₀) (F : Fr h₀ L s.heap m) (X : (kK w.params).In h₀) (T : Top kQ loose mean mg mb h₀) (hA : A.frames = some (env :: outer)) (hf : env.frame = some L) (hke : env.scope.kind = .function) (hH : A.handled = none) (hd : A.depth ≤ 480) (hu : A.units ≤ 4800)
  {kt ks : Nat → Tok} {sy rows md mm sd st hp sk tr xl ro ba : Addr} {t1 t2 t3 tb0 tmd tms tcp te tb ts1 thb tbb : Tok} {cp e b hbv bbv : Int} {nk nh nt nx nr : Nat} {stk hpv xs rws : List Value} {tl : List (Addr × Obj)}
  (G : Geo rows md mm sd st hp sk tr xl tl) (N : News h₀ L s.heap ((mm, instObj 534 md) :: (md, dictOf (mD w kt sy rows st xl ro ba t1 t2 t3 tb0 tmd tms cp tcp e te b tb) 18) :: (st, instObj 374 sd) :: (sd, dictOf (sD w ks sy hp sk tr ts1 hbv thb bbv tbb) 7) :: (sk, W.listOf (List.toArray stk) nk) :: (hp, W.listOf (List.toArray hpv) nh) :: (tr, W.listOf #[] nt) :: (xl, W.listOf (List.toArray xs) nx) :: (rows, W.listOf (List.toArray rws) nr) :: tl))
include B F X T hA hf hke hH hd hu G N
theorem c_trim {i : Int} {ti : Tok} (h0 : 0 ≤ i) (hi : i ≤ hpv.length) (hz : hpv.length ≤ 1000)
    (h : ∀ h' tk nh', Fr h₀ L h' m → News h₀ L h' ((mm, instObj 534 md) :: (md, dictOf (mD w kt sy rows st xl ro ba t1 t2 t3 tb0 tmd tms cp tcp e te b tb) 18) :: (st, instObj 374 sd) :: (sd, dictOf (sD w ks sy hp sk tr ts1 hbv thb bbv tbb) 7) :: (sk, W.listOf (List.toArray stk) nk) :: (hp, W.listOf (List.toArray (hpv.take i.toNat)) nh') :: (tr, W.listOf #[] nt) :: (xl, W.listOf (List.toArray xs) nx) :: (rows, W.listOf (List.toArray rws) nr) :: tl) → Q .none { s with heap := h', toks := tk }) :
    wpAny (model prog w) A (call (.ref 223) [.ref st, .int i ti]) Q E s := by
  obtain ⟨o1, o2, o3, o4, o5, o6, o7, o8, hT⟩ := id G
  obtain ⟨g2, g3, g4, g5, g6, g7, g8⟩ := G.lts
  k_steps
  rename Fr _ _ _ _ => F9
  rename News _ _ _ _ => N9
  refine' my_delN F9 N9 ?U h0 hi (by omega) rfl ?_
  case U => intro n'; k_upd
  intro h' n' F' N'
  dsimp only [envOf] at F' N'
  k_steps
  refine' h _ _ _ ?kF ?kN; (case kF => assumption); (case kN => assumption)
end
end
-- A_pch
section
section
variable {prog : Program} {w : World} {A A₀ : Around} {base : Heap} {outer : List Env} {env : Env} {h₀ : Heap} {L : Addr} {m : Str → Option Value} {mean : ExcName → Option Value} {mg mb : Str → Option Value} {loose : List Str} {E : Value → Shared → Prop} {s : Shared} {Q : Value → Shared → Prop}
  (B : Below A₀ base outer h₀) (F : Fr h₀ L s.heap m) (X : (kK w.params).In h₀) (T : Top kQ loose mean mg mb h₀) (hA : A.frames = some (env :: outer)) (hf : env.frame = some L) (hke : env.scope.kind = .function) (hH : A.handled = none) (hd : A.depth ≤ 450) (hu : A.units ≤ 4500)
  {kt ks : Nat → Tok} {sy rows md mm sd st hp sk tr xl ro ba : Addr} {t1 t2 t3 tb0 tmd tms tcp te tb ts1 thb tbb : Tok} {cp e b hbv bbv : Int} {nk nh nt nx nr : Nat} {stk hpv xs rws : List Value} {tl : List (Addr × Obj)}
  (G : Geo rows md mm sd st hp sk tr xl tl) (N : News h₀ L s.heap ((mm, instObj 534 md) :: (md, dictOf (mD w kt sy rows st xl ro ba t1 t2 t3 tb0 tmd tms cp tcp e te b tb) 18) :: (st, instObj 374 sd) :: (sd, dictOf (sD w ks sy hp sk tr ts1 hbv thb bbv tbb) 7) :: (sk, W.listOf (List.toArray stk) nk) :: (hp, W.listOf (List.toArray hpv) nh) :: (tr, W.listOf #[] nt) :: (xl, W.listOf (List.toArray xs) nx) :: (rows, W.listOf (List.toArray rws) nr) :: tl))
include B F X T hA hf hke hH hd hu G N
theorem c_pch {v : Int} {gl : Addr} {gv : List Value} {ng : Nat} {alt : Value} (hv : TopIs e b cp stk rws tl v) (h0 : 0 ≤ v) (hi : v ≤ stk.length) (hz : stk.length ≤ 900000) (hg : (gl, W.listOf gv.toArray ng) ∈ tl) (hgz : gv.length ≤ 100) (hpz : hpv.length ≤ 1000)
    (h : ∀ h' tk tb' hb' thb' bb' tbb' nk' stk' ta tc th, stk' = putL stk v (.int gv.length ta :: (gv ++ [.int e te, .int cp tcp, .int b tb, alt, .int 0 tc, .int hpv.length th, .int (-1) tb0])) → Fr h₀ L h' m → News h₀ L h' ((mm, instObj 534 md) :: (md, dictOf (mD w kt sy rows st xl ro ba t1 t2 t3 tb0 tmd tms cp tcp e te v tb') 18) :: (st, instObj 374 sd) :: (sd, dictOf (sD w ks sy hp sk tr ts1 hb' thb' bb' tbb') 7) :: (sk, W.listOf (List.toArray stk') nk') :: (hp, W.listOf (List.toArray hpv) nh) :: (tr, W.listOf #[] nt) :: (xl, W.listOf (List.toArray xs) nx) :: (rows, W.listOf (List.toArray rws) nr) :: tl) → Q .none { s with heap := h', toks := tk }) :
    wpAny (model prog w) A (call (.ref 482) [.ref mm, .ref gl, alt]) Q E s := by
  obtain ⟨o1, o2, o3, o4, o5, o6, o7, o8, hT⟩ := id G
  obtain ⟨g2, g3, g4, g5, g6, g7, g8⟩ := G.lts
  repeat' (first | (k_unfold; (try dsimp only)) | ((with_reducible show wpAny _ _ (call (Value.ref _) _) _ _ _); first | ((with_reducible show wpAny _ _ (call (Value.ref 475) _) _ _ _); refine Hold.out ?_) | ((with_reducible show wpAny _ _ (call (Value.ref 475) _) _ _ _); (k_dflt (refine' c_setch ?B ?F ?X ?T ?hA ?hf ?hke ?hH ?hd ?hu ?G ?N ?x0 ?_; (case N => tb_rel); (case B => k_asm); (case F => k_asm); (case X => k_asm); (case T => k_asm); (case hA => tb_start); (case hf => tb_start); (case hke => tb_start); (case hH => assumption); (case hd => ktr_room); (case hu => ktr_room); (case G => ktr_rel); (case x0 => first | assumption | exact Or.inr ⟨_, _, _, _, by assumption, by assumption⟩); k_whole); (try dsimp only); intro _ _ _ _ _ _ _ _; (try k_sweep))) | ((with_reducible show wpAny _ _ (call (Value.ref 447) _) _ _ _); (k_dflt (refine' c_top ?B ?F ?X ?T ?hA ?hf ?hke ?hH ?hd ?hu ?G ?N ?x0 ?_; (case N => tb_rel); (case B => k_asm); (case F => k_asm); (case X => k_asm); (case T => k_asm); (case hA => tb_start); (case hf => tb_start); (case hke => tb_start); (case hH => assumption); (case hd => ktr_room); (case hu => ktr_room); (case G => ktr_rel); (case x0 => first | assumption | ((repeat refine len_step (by assumption) ?_ (by rfl)); exact Nat.le_of_ble_eq_true (by rfl)) | omega); k_whole); (try dsimp only); intro _ _ _ _ _; (try k_sweep))) | ((with_reducible show wpAny _ _ (call (Value.ref 279) _) _ _ _); (k_dflt (refine' c_put ?B ?F ?X ?T ?hA ?hf ?hke ?hH ?hd ?hu ?G ?N ?x0 ?x1 ?x2 ?_; (case N => tb_rel); (case B => k_asm); (case F => k_asm); (case X => k_asm); (case T => k_asm); (case hA => tb_start); (case hf => tb_start); (case hke => tb_start); (case hH => assumption); (case hd => ktr_room); (case hu => ktr_room); (case G => ktr_rel); (case x0 => first | assumption | ((repeat refine len_step (by assumption) ?_ (by rfl)); exact Nat.le_of_ble_eq_true (by rfl)) | omega); (case x1 => first | assumption | ((repeat refine len_step (by assumption) ?_ (by rfl)); exact Nat.le_of_ble_eq_true (by rfl)) | omega); (case x2 => first | assumption | ((repeat refine len_step (by assumption) ?_ (by rfl)); exact Nat.le_of_ble_eq_true (by rfl)) | omega); k_whole); (try dsimp only); intro _ _ _ _ _ _ _ _ _ _; (try k_sweep)))) | walk1 | (dsimp only; walk1) | (leave1; walk_say "STEP leave1"; try dsimp only) | fail "no step")
  rename_i hh tk9 stkA nkA hsA hA1 hA2 hA3 hhB F9 N9
  refine' listS (n := ng) (M1 (Str.ofString "at") (fun (q : List Value × Nat × Int × Tok) => Value.int q.2.2.1 q.2.2.2) _) (fun q : List Value × Nat × Int × Tok => ((mm, instObj 534 md) :: (md, dictOf (mD w kt sy rows st xl ro ba t1 t2 t3 tb0 tmd tms cp tcp e te b tb) 18) :: (st, instObj 374 sd) :: (sd, dictOf (sD w ks sy hp sk tr ts1 hbv thb bbv tbb) 7) :: (sk, W.listOf (List.toArray q.1) q.2.1) :: (hp, W.listOf (List.toArray hpv) nh) :: (tr, W.listOf #[] nt) :: (xl, W.listOf (List.toArray xs) nx) :: (rows, W.listOf (List.toArray rws) nr) :: tl)) (fun i q => q.1 = putL stkA (v + 1) (gv.take i) ∧ q.2.2.1 = v + i ∧ v + 1 + i ≤ q.1.length ∧ q.1.length ≤ stkA.length + i) (stkA, nkA, v, _) hH F9 N9 (mem_tl9 hg) rfl rfl (fun _ _ => rfl) rfl (fun _ => mem_tl9 hg) ⟨rfl, by dsimp only; omega, by dsimp only; omega, by dsimp only; omega⟩ ?turn ?done
  case turn =>
    rintro i ⟨stkB, nkB, av, ta⟩ x h' tk' I it hi' ⟨hB, hav, hB1, hB2⟩ ho hI F' N'
    k_lt hI
    dsimp only [envOf, M1] at hB hav hB1 hB2 ho F' N'
    subst hav
    have hlt := (List.getElem?_eq_some_iff.mp hi').1
    have hBz : stkB.length ≤ 900200 := by omega
    clear N9 F9
    repeat' (first | (k_unfold; (try dsimp only)) | ((with_reducible show wpAny _ _ (call (Value.ref _) _) _ _ _); first | ((with_reducible show wpAny _ _ (call (Value.ref 475) _) _ _ _); refine Hold.out ?_) | ((with_reducible show wpAny _ _ (call (Value.ref 475) _) _ _ _); (k_dflt (refine' c_setch ?B ?F ?X ?T ?hA ?hf ?hke ?hH ?hd ?hu ?G ?N ?x0 ?_; (case N => tb_rel); (case B => k_asm); (case F => k_asm); (case X => k_asm); (case T => k_asm); (case hA => tb_start); (case hf => tb_start); (case hke => tb_start); (case hH => assumption); (case hd => ktr_room); (case hu => ktr_room); (case G => ktr_rel); (case x0 => first | assumption | exact Or.inr ⟨_, _, _, _, by assumption, by assumption⟩); k_whole); (try dsimp only); intro _ _ _ _ _ _ _ _; (try k_sweep))) | ((with_reducible show wpAny _ _ (call (Value.ref 447) _) _ _ _); (k_dflt (refine' c_top ?B ?F ?X ?T ?hA ?hf ?hke ?hH ?hd ?hu ?G ?N ?x0 ?_; (case N => tb_rel); (case B => k_asm); (case F => k_asm); (case X => k_asm); (case T => k_asm); (case hA => tb_start); (case hf => tb_start); (case hke => tb_start); (case hH => assumption); (case hd => ktr_room); (case hu => ktr_room); (case G => ktr_rel); (case x0 => first | assumption | ((repeat refine len_step (by assumption) ?_ (by rfl)); exact Nat.le_of_ble_eq_true (by rfl)) | omega); k_whole); (try dsimp only); intro _ _ _ _ _; (try k_sweep))) | ((with_reducible show wpAny _ _ (call (Value.ref 279) _) _ _ _); (k_dflt (refine' c_put ?B ?F ?X ?T ?hA ?hf ?hke ?hH ?hd ?hu ?G ?N ?x0 ?x1 ?x2 ?_; (case N => tb_rel); (case B => k_asm); (case F => k_asm); (case X => k_asm); (case T => k_asm); (case hA => tb_start); (case hf => tb_start); (case hke => tb_start); (case hH => assumption); (case hd => ktr_room); (case hu => ktr_room); (case G => ktr_rel); (case x0 => first | assumption | ((repeat refine len_step (by assumption) ?_ (by rfl)); exact Nat.le_of_ble_eq_true (by rfl)) | omega); (case x1 => first | assumption | ((repeat refine len_step (by assumption) ?_ (by rfl)); exact Nat.le_of_ble_eq_true (by rfl)) | omega); (case x2 => first | assumption | ((repeat refine len_step (by assumption) ?_ (by rfl)); exact Nat.le_of_ble_eq_true (by rfl)) | omega); k_whole); (try dsimp only); intro _ _ _ _ _ _ _ _ _ _; (try k_sweep)))) | walk1 | (dsimp only; walk1) | (leave1; walk_say "STEP leave1"; try dsimp only) | fail "no step")
    rename_i h3 tk3 stkC nkC hC hC1 hC2 hC3 F3 N3
    try dsimp only [LpPost]
    refine LpEnd.intro (stkC, nkC, v + i + 1, _) F3 nm1 (News.mv9 N3) (off_same ho) ⟨?_, by dsimp only; push_cast; omega, by dsimp only; push_cast; omega, by dsimp only; omega⟩
    dsimp only
    rw [List.take_add_one, hi', Option.toList_some, putL_snoc, ← hB, hC, List.length_take]
    congr 1
    omega
  case done =>
    rintro ⟨stkB, nkB, av, ta⟩ u h' tk' ⟨hB, hav, hB1, hB2⟩ F' N'
    dsimp only [envOf, M1] at hB hav hB1 hB2 F' N'
    subst hav
    have hBz : stkB.length ≤ 900200 := by omega
    clear N9 F9
    repeat' (first | (k_unfold; (try dsimp only)) | ((with_reducible show wpAny _ _ (call (Value.ref _) _) _ _ _); first | ((with_reducible show wpAny _ _ (call (Value.ref 475) _) _ _ _); refine Hold.out ?_) | ((with_reducible show wpAny _ _ (call (Value.ref 475) _) _ _ _); (k_dflt (refine' c_setch ?B ?F ?X ?T ?hA ?hf ?hke ?hH ?hd ?hu ?G ?N ?x0 ?_; (case N => tb_rel); (case B => k_asm); (case F => k_asm); (case X => k_asm); (case T => k_asm); (case hA => tb_start); (case hf => tb_start); (case hke => tb_start); (case hH => assumption); (case hd => ktr_room); (case hu => ktr_room); (case G => ktr_rel); (case x0 => first | assumption | exact Or.inr ⟨_, _, _, _, by assumption, by assumption⟩); k_whole); (try dsimp only); intro _ _ _ _ _ _ _ _; (try k_sweep))) | ((with_reducible show wpAny _ _ (call (Value.ref 447) _) _ _ _); (k_dflt (refine' c_top ?B ?F ?X ?T ?hA ?hf ?hke ?hH ?hd ?hu ?G ?N ?x0 ?_; (case N => tb_rel); (case B => k_asm); (case F => k_asm); (case X => k_asm); (case T => k_asm); (case hA => tb_start); (case hf => tb_start); (case hke => tb_start); (case hH => assumption); (case hd => ktr_room); (case hu => ktr_room); (case G => ktr_rel); (case x0 => first | assumption | ((repeat refine len_step (by assumption) ?_ (by rfl)); exact Nat.le_of_ble_eq_true (by rfl)) | omega); k_whole); (try dsimp only); intro _ _ _ _ _; (try k_sweep))) | ((with_reducible show wpAny _ _ (call (Value.ref 279) _) _ _ _); (k_dflt (refine' c_put ?B ?F ?X ?T ?hA ?hf ?hke ?hH ?hd ?hu ?G ?N ?x0 ?x1 ?x2 ?_; (case N => tb_rel); (case B => k_asm); (case F => k_asm); (case X => k_asm); (case T => k_asm); (case hA => tb_start); (case hf => tb_start); (case hke => tb_start); (case hH => assumption); (case hd => ktr_room); (case hu => ktr_room); (case G => ktr_rel); (case x0 => first | assumption | ((repeat refine len_step (by assumption) ?_ (by rfl)); exact Nat.le_of_ble_eq_true (by rfl)) | omega); (case x1 => first | assumption | ((repeat refine len_step (by assumption) ?_ (by rfl)); exact Nat.le_of_ble_eq_true (by rfl)) | omega); (case x2 => first | assumption | ((repeat refine len_step (by assumption) ?_ (by rfl)); exact Nat.le_of_ble_eq_true (by rfl)) | omega); k_whole); (try dsimp only); intro _ _ _ _ _ _ _ _ _ _; (try k_sweep)))) | walk1 | (dsimp only; walk1) | (leave1; walk_say "STEP leave1"; try dsimp only) | fail "no step")
    refine Hold.mk ?_
    rename _ = putS stkB _ _ => e1
    rename _ = putS _ _ (Value.int cp tcp) => e2
    rename _ = putS _ _ (Value.int b tb) => e3
    rename _ = putS _ _ alt => e4
    rename _ = putS _ _ (Value.int (List.length []) _) => e5
    rename _ = putS _ _ (Value.int hpv.length _) => e6
    rename _ = putS _ _ (Value.int (-1) tb0) => e7
    rename Fr _ _ _ _ => F7
    rename News _ _ _ _ => N7
    have E9 := e7
    rw [e6, e5, e4, e3, e2, e1, hB, hsA, List.take_length] at E9
    have E8 := E9.trans (b := _) (c := putL stk v (_ :: (gv ++ [_, _, _, _, _, _, _]))) (by
      rw [putL, putL_append]
      simp only [putL]
      refine putS_congr (putS_congr (putS_congr (putS_congr (putS_congr (putS_congr (putS_congr rfl ?_) ?_) ?_) ?_) ?_) ?_) ?_ <;> omega)
    have Q1 : At _ v _ := E8 ▸ At.putL_in h0 hi (by omega) (k := v) (v := .int gv.length _) (by rw [Int.sub_self]; rfl) (Int.le_refl _) (by simp; omega)
    have Q2 : At _ (v + gv.length + 6) _ := E8 ▸ At.putL_in h0 hi (by omega) (k := v + gv.length + 6) (v := .int hpv.length _) (pch_get (j := 5) (by omega) rfl) (by omega) (by simp; omega)
    clear e1 e2 e3 e4 e5 e6 e7 E9
    (k_dflt (refine' c_setch ?B ?F ?X ?T ?hA ?hf ?hke ?hH ?hd ?hu ?G ?N ?x0 ?_; (case N => tb_rel); (case B => k_asm); (case F => k_asm); (case X => k_asm); (case T => k_asm); (case hA => tb_start); (case hf => tb_start); (case hke => tb_start); (case hH => assumption); (case hd => ktr_room); (case hu => ktr_room); (case G => ktr_rel); (case x0 => exact Or.inr ⟨_, _, _, _, Q1, Q2⟩); k_whole); (try dsimp only); intro h' tk' hb' thb' bb' tbb' F' N'; (try k_sweep))
    repeat' (first | (k_unfold; (try dsimp only)) | ((with_reducible show wpAny _ _ (call (Value.ref _) _) _ _ _); first | ((with_reducible show wpAny _ _ (call (Value.ref 475) _) _ _ _); refine Hold.out ?_) | ((with_reducible show wpAny _ _ (call (Value.ref 475) _) _ _ _); (k_dflt (refine' c_setch ?B ?F ?X ?T ?hA ?hf ?hke ?hH ?hd ?hu ?G ?N ?x0 ?_; (case N => tb_rel); (case B => k_asm); (case F => k_asm); (case X => k_asm); (case T => k_asm); (case hA => tb_start); (case hf => tb_start); (case hke => tb_start); (case hH => assumption); (case hd => ktr_room); (case hu => ktr_room); (case G => ktr_rel); (case x0 => first | assumption | exact Or.inr ⟨_, _, _, _, by assumption, by assumption⟩); k_whole); (try dsimp only); intro _ _ _ _ _ _ _ _; (try k_sweep))) | ((with_reducible show wpAny _ _ (call (Value.ref 447) _) _ _ _); (k_dflt (refine' c_top ?B ?F ?X ?T ?hA ?hf ?hke ?hH ?hd ?hu ?G ?N ?x0 ?_; (case N => tb_rel); (case B => k_asm); (case F => k_asm); (case X => k_asm); (case T => k_asm); (case hA => tb_start); (case hf => tb_start); (case hke => tb_start); (case hH => assumption); (case hd => ktr_room); (case hu => ktr_room); (case G => ktr_rel); (case x0 => first | assumption | ((repeat refine len_step (by assumption) ?_ (by rfl)); exact Nat.le_of_ble_eq_true (by rfl)) | omega); k_whole); (try dsimp only); intro _ _ _ _ _; (try k_sweep))) | ((with_reducible show wpAny _ _ (call (Value.ref 279) _) _ _ _); (k_dflt (refine' c_put ?B ?F ?X ?T ?hA ?hf ?hke ?hH ?hd ?hu ?G ?N ?x0 ?x1 ?x2 ?_; (case N => tb_rel); (case B => k_asm); (case F => k_asm); (case X => k_asm); (case T => k_asm); (case hA => tb_start); (case hf => tb_start); (case hke => tb_start); (case hH => assumption); (case hd => ktr_room); (case hu => ktr_room); (case G => ktr_rel); (case x0 => first | assumption | ((repeat refine len_step (by assumption) ?_ (by rfl)); exact Nat.le_of_ble_eq_true (by rfl)) | omega); (case x1 => first | assumption | ((repeat refine len_step (by assumption) ?_ (by rfl)); exact Nat.le_of_ble_eq_true (by rfl)) | omega); (case x2 => first | assumption | ((repeat refine len_step (by assumption) ?_ (by rfl)); exact Nat.le_of_ble_eq_true (by rfl)) | omega); k_whole); (try dsimp only); intro _ _ _ _ _ _ _ _ _ _; (try k_sweep)))) | walk1 | (dsimp only; walk1) | (leave1; walk_say "STEP leave1"; try dsimp only) | fail "no step")
    refine' h _ _ _ _ _ _ _ _ _ _ _ _ E8 ?kF ?kN; (case kF => assumption); (case kN => assumption)
end
end
-- A_undo
section
local macro_rules | `(tactic| walk_at "none such") => `(tactic| skip)
local macro_rules | `(tactic| walk_at "none such") => `(tactic| skip)
local macro_rules | `(tactic| walk_at "exec While") => `(tactic| (refine Hold.out ?_))
local macro_rules | `(tactic| walk_at "exec While Compare cons nil") => `(tactic| (refine Hold.out ?_))
section
variable {prog : Program} {w : World} {A A₀ : Around} {base : Heap} {outer : List Env} {env : Env} {h₀ : Heap} {L : Addr} {m : Str → Option Value} {mean : ExcName → Option Value} {mg mb : Str → Option Value} {loose : List Str} {E : Value → Shared → Prop} {s : Shared} {Q : Value → Shared → Prop}
  (B : Below A₀ base outer h₀) (F : Fr h₀ L s.heap m) (X : (kK w.params).In h₀) (T : Top kQ loose mean mg mb h₀) (hA : A.frames = some (env :: outer)) (hf : env.frame = some L) (hke : env.scope.kind = .function) (hH : A.handled = none) (hd : A.depth ≤ 480) (hu : A.units ≤ 4800)
  {kt ks : Nat → Tok} {sy rows md mm sd st hp sk tr xl ro ba : Addr} {t1 t2 t3 tb0 tmd tms tcp te tb ts1 thb tbb : Tok} {cp e b hbv bbv : Int} {nk nh nt nx nr : Nat} {stk hpv xs rws : List Value} {tl : List (Addr × Obj)}
  (G : Geo rows md mm sd st hp sk tr xl tl) (N : News h₀ L s.heap ((mm, instObj 534 md) :: (md, dictOf (mD w kt sy rows st xl ro ba t1 t2 t3 tb0 tmd tms cp tcp e te b tb) 18) :: (st, instObj 374 sd) :: (sd, dictOf (sD w ks sy hp sk tr ts1 hbv thb bbv tbb) 7) :: (sk, W.listOf (List.toArray stk) nk) :: (hp, W.listOf (List.toArray hpv) nh) :: (tr, W.listOf #[] nt) :: (xl, W.listOf (List.toArray xs) nx) :: (rows, W.listOf (List.toArray rws) nr) :: tl))
include B F X T hA hf hke hH hd hu G N
theorem c_undo {tq : Tok} (h : ∀ h' tk, Fr h₀ L h' m → News h₀ L h' ((mm, instObj 534 md) :: (md, dictOf (mD w kt sy rows st xl ro ba t1 t2 t3 tb0 tmd tms cp tcp e te b tb) 18) :: (st, instObj 374 sd) :: (sd, dictOf (sD w ks sy hp sk tr ts1 hbv thb bbv tbb) 7) :: (sk, W.listOf (List.toArray stk) nk) :: (hp, W.listOf (List.toArray hpv) nh) :: (tr, W.listOf #[] nt) :: (xl, W.listOf (List.toArray xs) nx) :: (rows, W.listOf (List.toArray rws) nr) :: tl) → Q .none { s with heap := h', toks := tk }) :
    wpAny (model prog w) A (call (.ref 272) [.ref st, .int 0 tq]) Q E s := by
  obtain ⟨o1, o2, o3, o4, o5, o6, o7, o8, hT⟩ := id G
  obtain ⟨g2, g3, g4, g5, g6, g7, g8⟩ := G.lts
  k_steps
  refine Hold.mk ?_
  rename Fr _ _ _ _ => F9
  rename News _ _ _ _ => N9
  refine While_inv (StJ _ _) (n₀ := 0) F9 N9 ⟨rfl, rfl⟩ ?_
  rintro n m₁ news₁ h₁ tk₁ F1 N1 ⟨rfl, rfl⟩
  clear N9 F9
  k_steps
  refine' h _ _ ?kF ?kN; (case kF => assumption); (case kN => assumption)
end
end
-- A_restore
section
local macro_rules | `(tactic| walk_at "none such") => `(tactic| skip)
section
variable {prog : Program} {w : World} {A A₀ : Around} {base : Heap} {outer : List Env} {env : Env} {h₀ : Heap} {L : Addr} {m : Str → Option Value} {mean : ExcName → Option Value} {mg mb : Str → Option Value} {loose : List Str} {E : Value → Shared → Prop} {s : Shared} {Q : Value → Shared → Prop}
  (B : Below A₀ base outer h₀) (F : Fr h₀ L s.heap m) (X : (kK w.params).In h₀) (T : Top kQ loose mean mg mb h₀) (hA : A.frames = some (env :: outer)) (hf : env.frame = some L) (hke : env.scope.kind = .function) (hH : A.handled = none) (hd : A.depth ≤ 450) (hu : A.units ≤ 4500)
  {kt ks : Nat → Tok} {sy rows md mm sd st hp sk tr xl ro ba : Addr} {t1 t2 t3 tb0 tmd tms tcp te tb ts1 thb tbb : Tok} {cp e b hbv bbv : Int} {nk nh nt nx nr : Nat} {stk hpv xs rws : List Value} {tl : List (Addr × Obj)}
  (G : Geo rows md mm sd st hp sk tr xl tl) (N : News h₀ L s.heap ((mm, instObj 534 md) :: (md, dictOf (mD w kt sy rows st xl ro ba t1 t2 t3 tb0 tmd tms cp tcp e te b tb) 18) :: (st, instObj 374 sd) :: (sd, dictOf (sD w ks sy hp sk tr ts1 hbv thb bbv tbb) 7) :: (sk, W.listOf (List.toArray stk) nk) :: (hp, W.listOf (List.toArray hpv) nh) :: (tr, W.listOf #[] nt) :: (xl, W.listOf (List.toArray xs) nx) :: (rows, W.listOf (List.toArray rws) nr) :: tl))
include B F X T hA hf hke hH hd hu G N
theorem c_restore {e' cp' hl : Int} {gv : List Value} {tc te' tcp' tq thl : Tok} (hc : At stk b (.int gv.length tc)) (hg : ∀ (j : Nat) (v : Value), gv[j]? = some v → At stk (b + (1 + (j : Int))) v) (hgz : gv.length ≤ 100)
    (h1 : At stk (b + gv.length + 1) (.int e' te')) (h2 : At stk (b + gv.length + 2) (.int cp' tcp')) (h5 : At stk (b + gv.length + 5) (.int 0 tq)) (h6 : At stk (b + gv.length + 6) (.int hl thl)) (hl0 : 0 ≤ hl) (hl1 : hl ≤ hpv.length) (hpz : hpv.length ≤ 1000) (hx1 : 1 ≤ xs.length) (hxz : xs.length ≤ 10000)
    (h : ∀ h' tk xs' nx' nh', xs' = putL xs 1 gv → Fr h₀ L h' m → News h₀ L h' ((mm, instObj 534 md) :: (md, dictOf (mD w kt sy rows st xl ro ba t1 t2 t3 tb0 tmd tms cp' tcp' e' te' b tb) 18) :: (st, instObj 374 sd) :: (sd, dictOf (sD w ks sy hp sk tr ts1 hbv thb bbv tbb) 7) :: (sk, W.listOf (List.toArray stk) nk) :: (hp, W.listOf (List.toArray (hpv.take hl.toNat)) nh') :: (tr, W.listOf #[] nt) :: (xl, W.listOf (List.toArray xs') nx') :: (rows, W.listOf (List.toArray rws) nr) :: tl) → Q .none { s with heap := h', toks := tk }) :
    wpAny (model prog w) A (call (.ref 503) [.ref mm]) Q E s := by
  obtain ⟨o1, o2, o3, o4, o5, o6, o7, o8, hT⟩ := id G
  obtain ⟨g2, g3, g4, g5, g6, g7, g8⟩ := G.lts
  repeat' (first | (k_unfold; (try dsimp only)) | ((with_reducible show wpAny _ _ (call (Value.ref _) _) _ _ _); first | ((with_reducible show wpAny _ _ (call (Value.ref 272) _) _ _ _); (k_dflt (refine' c_undo ?B ?F ?X ?T ?hA ?hf ?hke ?hH ?hd ?hu ?G ?N  ?_; (case N => tb_rel); (case B => k_asm); (case F => k_asm); (case X => k_asm); (case T => k_asm); (case hA => tb_start); (case hf => tb_start); (case hke => tb_start); (case hH => assumption); (case hd => ktr_room); (case hu => ktr_room); (case G => ktr_rel); k_whole); (try dsimp only); intro _ _ _ _; (try k_sweep))) | ((with_reducible show wpAny _ _ (call (Value.ref 223) _) _ _ _); (k_dflt (refine' c_trim ?B ?F ?X ?T ?hA ?hf ?hke ?hH ?hd ?hu ?G ?N ?x0 ?x1 ?x2 ?_; (case N => tb_rel); (case B => k_asm); (case F => k_asm); (case X => k_asm); (case T => k_asm); (case hA => tb_start); (case hf => tb_start); (case hke => tb_start); (case hH => assumption); (case hd => ktr_room); (case hu => ktr_room); (case G => ktr_rel); (case x0 => first | assumption | ((repeat refine len_step (by assumption) ?_ (by rfl)); exact Nat.le_of_ble_eq_true (by rfl)) | omega); (case x1 => first | assumption | ((repeat refine len_step (by assumption) ?_ (by rfl)); exact Nat.le_of_ble_eq_true (by rfl)) | omega); (case x2 => first | assumption | ((repeat refine len_step (by assumption) ?_ (by rfl)); exact Nat.le_of_ble_eq_true (by rfl)) | omega); k_whole); (try dsimp only); intro _ _ _ _ _; (try k_sweep))) | ((with_reducible show wpAny _ _ (call (Value.ref 496) _) _ _ _); (k_dflt (refine' c_part ?B ?F ?X ?T ?hA ?hf ?hke ?hH ?hd ?hu ?G ?N ?x0 ?x1 ?_; (case N => tb_rel); (case B => k_asm); (case F => k_asm); (case X => k_asm); (case T => k_asm); (case hA => tb_start); (case hf => tb_start); (case hke => tb_start); (case hH => assumption); (case hd => ktr_room); (case hu => ktr_room); (case G => ktr_rel); (case x0 => first | assumption | ((repeat refine len_step (by assumption) ?_ (by rfl)); exact Nat.le_of_ble_eq_true (by rfl)) | omega); (case x1 => first | assumption | ((repeat refine len_step (by assumption) ?_ (by rfl)); exact Nat.le_of_ble_eq_true (by rfl)) | omega); k_whole); (try dsimp only); intro _ _ _ _; (try k_sweep))) | ((with_reducible show wpAny _ _ (call (Value.ref 405) _) _ _ _); (k_dflt (refine' c_setx ?B ?F ?X ?T ?hA ?hf ?hke ?hH ?hd ?hu ?G ?N ?x0 ?x1 ?x2 ?_; (case N => tb_rel); (case B => k_asm); (case F => k_asm); (case X => k_asm); (case T => k_asm); (case hA => tb_start); (case hf => tb_start); (case hke => tb_start); (case hH => assumption); (case hd => ktr_room); (case hu => ktr_room); (case G => ktr_rel); (case x0 => first | assumption | ((repeat refine len_step (by assumption) ?_ (by rfl)); exact Nat.le_of_ble_eq_true (by rfl)) | omega); (case x1 => first | assumption | ((repeat refine len_step (by assumption) ?_ (by rfl)); exact Nat.le_of_ble_eq_true (by rfl)) | omega); (case x2 => first | assumption | ((repeat refine len_step (by assumption) ?_ (by rfl)); exact Nat.le_of_ble_eq_true (by rfl)) | omega); k_whole); (try dsimp only); intro _ _ _ _ _ _ _; (try k_sweep)))) | walk1 | (dsimp only; walk1) | (leave1; walk_say "STEP leave1"; try dsimp only) | fail "no step")
  rename_i t9 u9 v9 R9 F9 N9 a9
  refine' rangeS (n := gv.length) (fun _ => _) (fun q : List Value × Nat => ((mm, instObj 534 md) :: (md, dictOf (mD w kt sy rows st xl ro ba t1 t2 t3 tb0 tmd tms cp tcp e te b tb) 18) :: (st, instObj 374 sd) :: (sd, dictOf (sD w ks sy hp sk tr ts1 hbv thb bbv tbb) 7) :: (sk, W.listOf (List.toArray stk) nk) :: (hp, W.listOf (List.toArray hpv) nh) :: (tr, W.listOf #[] nt) :: (xl, W.listOf (List.toArray q.1) q.2) :: (rows, W.listOf (List.toArray rws) nr) :: tl)) (fun i q => q.1 = putL xs 1 (gv.take i) ∧ 1 + i ≤ q.1.length ∧ q.1.length ≤ xs.length + i) (xs, nx) hH R9 (small2 (by omega) (by omega)) ((size2 (by omega)).trans (by omega)) F9 N9 (fun _ _ => rfl) rfl ⟨rfl, by dsimp only; omega, by dsimp only; omega⟩ ?turn ?done
  case turn =>
    rintro i ⟨xsB, nxB⟩ t h' tk' I it hi' ⟨hB, hB1, hB2⟩ ho hI F' N'
    k_lt hI
    dsimp only [envOf] at hB hB1 hB2 ho F' N'
    obtain ⟨x, hx⟩ : ∃ x, gv[i]? = some x := ⟨gv[i], List.getElem?_eq_getElem hi'⟩
    have hgx := hg i x hx
    clear N9 F9
    repeat' (first | (k_unfold; (try dsimp only)) | ((with_reducible show wpAny _ _ (call (Value.ref _) _) _ _ _); first | ((with_reducible show wpAny _ _ (call (Value.ref 272) _) _ _ _); (k_dflt (refine' c_undo ?B ?F ?X ?T ?hA ?hf ?hke ?hH ?hd ?hu ?G ?N  ?_; (case N => tb_rel); (case B => k_asm); (case F => k_asm); (case X => k_asm); (case T => k_asm); (case hA => tb_start); (case hf => tb_start); (case hke => tb_start); (case hH => assumption); (case hd => ktr_room); (case hu => ktr_room); (case G => ktr_rel); k_whole); (try dsimp only); intro _ _ _ _; (try k_sweep))) | ((with_reducible show wpAny _ _ (call (Value.ref 223) _) _ _ _); (k_dflt (refine' c_trim ?B ?F ?X ?T ?hA ?hf ?hke ?hH ?hd ?hu ?G ?N ?x0 ?x1 ?x2 ?_; (case N => tb_rel); (case B => k_asm); (case F => k_asm); (case X => k_asm); (case T => k_asm); (case hA => tb_start); (case hf => tb_start); (case hke => tb_start); (case hH => assumption); (case hd => ktr_room); (case hu => ktr_room); (case G => ktr_rel); (case x0 => first | assumption | ((repeat refine len_step (by assumption) ?_ (by rfl)); exact Nat.le_of_ble_eq_true (by rfl)) | omega); (case x1 => first | assumption | ((repeat refine len_step (by assumption) ?_ (by rfl)); exact Nat.le_of_ble_eq_true (by rfl)) | omega); (case x2 => first | assumption | ((repeat refine len_step (by assumption) ?_ (by rfl)); exact Nat.le_of_ble_eq_true (by rfl)) | omega); k_whole); (try dsimp only); intro _ _ _ _ _; (try k_sweep))) | ((with_reducible show wpAny _ _ (call (Value.ref 496) _) _ _ _); (k_dflt (refine' c_part ?B ?F ?X ?T ?hA ?hf ?hke ?hH ?hd ?hu ?G ?N ?x0 ?x1 ?_; (case N => tb_rel); (case B => k_asm); (case F => k_asm); (case X => k_asm); (case T => k_asm); (case hA => tb_start); (case hf => tb_start); (case hke => tb_start); (case hH => assumption); (case hd => ktr_room); (case hu => ktr_room); (case G => ktr_rel); (case x0 => first | assumption | ((repeat refine len_step (by assumption) ?_ (by rfl)); exact Nat.le_of_ble_eq_true (by rfl)) | omega); (case x1 => first | assumption | ((repeat refine len_step (by assumption) ?_ (by rfl)); exact Nat.le_of_ble_eq_true (by rfl)) | omega); k_whole); (try dsimp only); intro _ _ _ _; (try k_sweep))) | ((with_reducible show wpAny _ _ (call (Value.ref 405) _) _ _ _); (k_dflt (refine' c_setx ?B ?F ?X ?T ?hA ?hf ?hke ?hH ?hd ?hu ?G ?N ?x0 ?x1 ?x2 ?_; (case N => tb_rel); (case B => k_asm); (case F => k_asm); (case X => k_asm); (case T => k_asm); (case hA => tb_start); (case hf => tb_start); (case hke => tb_start); (case hH => assumption); (case hd => ktr_room); (case hu => ktr_room); (case G => ktr_rel); (case x0 => first | assumption | ((repeat refine len_step (by assumption) ?_ (by rfl)); exact Nat.le_of_ble_eq_true (by rfl)) | omega); (case x1 => first | assumption | ((repeat refine len_step (by assumption) ?_ (by rfl)); exact Nat.le_of_ble_eq_true (by rfl)) | omega); (case x2 => first | assumption | ((repeat refine len_step (by assumption) ?_ (by rfl)); exact Nat.le_of_ble_eq_true (by rfl)) | omega); k_whole); (try dsimp only); intro _ _ _ _ _ _ _; (try k_sweep)))) | walk1 | (dsimp only; walk1) | (leave1; walk_say "STEP leave1"; try dsimp only) | fail "no step")
    rename_i h3 tk3 xsC nxC hC F3 N3
    have hC1 := putS_len (l := xsB) (i := 1 + i) (v := x) (by omega) (by omega)
    try dsimp only [LpPost]
    refine LpEnd.intro (xsC, nxC) F3 (fun y hy => if_neg hy) (News.mv9 N3) (off_same ho) ⟨?_, by dsimp only; rw [hC]; omega, by dsimp only; rw [hC]; omega⟩
    dsimp only
    rw [List.take_add_one, hx, Option.toList_some, putL_snoc, ← hB, hC, List.length_take]
    congr 1
    omega
  case done =>
    rintro ⟨xsB, nxB⟩ u h' tk' ⟨hB, hB1, hB2⟩ F' N'
    dsimp only [envOf] at hB hB1 hB2 F' N'
    clear N9 F9
    rw [List.take_length] at hB
    repeat' (first | (k_unfold; (try dsimp only)) | ((with_reducible show wpAny _ _ (call (Value.ref _) _) _ _ _); first | ((with_reducible show wpAny _ _ (call (Value.ref 272) _) _ _ _); (k_dflt (refine' c_undo ?B ?F ?X ?T ?hA ?hf ?hke ?hH ?hd ?hu ?G ?N  ?_; (case N => tb_rel); (case B => k_asm); (case F => k_asm); (case X => k_asm); (case T => k_asm); (case hA => tb_start); (case hf => tb_start); (case hke => tb_start); (case hH => assumption); (case hd => ktr_room); (case hu => ktr_room); (case G => ktr_rel); k_whole); (try dsimp only); intro _ _ _ _; (try k_sweep))) | ((with_reducible show wpAny _ _ (call (Value.ref 223) _) _ _ _); (k_dflt (refine' c_trim ?B ?F ?X ?T ?hA ?hf ?hke ?hH ?hd ?hu ?G ?N ?x0 ?x1 ?x2 ?_; (case N => tb_rel); (case B => k_asm); (case F => k_asm); (case X => k_asm); (case T => k_asm); (case hA => tb_start); (case hf => tb_start); (case hke => tb_start); (case hH => assumption); (case hd => ktr_room); (case hu => ktr_room); (case G => ktr_rel); (case x0 => first | assumption | ((repeat refine len_step (by assumption) ?_ (by rfl)); exact Nat.le_of_ble_eq_true (by rfl)) | omega); (case x1 => first | assumption | ((repeat refine len_step (by assumption) ?_ (by rfl)); exact Nat.le_of_ble_eq_true (by rfl)) | omega); (case x2 => first | assumption | ((repeat refine len_step (by assumption) ?_ (by rfl)); exact Nat.le_of_ble_eq_true (by rfl)) | omega); k_whole); (try dsimp only); intro _ _ _ _ _; (try k_sweep))) | ((with_reducible show wpAny _ _ (call (Value.ref 496) _) _ _ _); (k_dflt (refine' c_part ?B ?F ?X ?T ?hA ?hf ?hke ?hH ?hd ?hu ?G ?N ?x0 ?x1 ?_; (case N => tb_rel); (case B => k_asm); (case F => k_asm); (case X => k_asm); (case T => k_asm); (case hA => tb_start); (case hf => tb_start); (case hke => tb_start); (case hH => assumption); (case hd => ktr_room); (case hu => ktr_room); (case G => ktr_rel); (case x0 => first | assumption | ((repeat refine len_step (by assumption) ?_ (by rfl)); exact Nat.le_of_ble_eq_true (by rfl)) | omega); (case x1 => first | assumption | ((repeat refine len_step (by assumption) ?_ (by rfl)); exact Nat.le_of_ble_eq_true (by rfl)) | omega); k_whole); (try dsimp only); intro _ _ _ _; (try k_sweep))) | ((with_reducible show wpAny _ _ (call (Value.ref 405) _) _ _ _); (k_dflt (refine' c_setx ?B ?F ?X ?T ?hA ?hf ?hke ?hH ?hd ?hu ?G ?N ?x0 ?x1 ?x2 ?_; (case N => tb_rel); (case B => k_asm); (case F => k_asm); (case X => k_asm); (case T => k_asm); (case hA => tb_start); (case hf => tb_start); (case hke => tb_start); (case hH => assumption); (case hd => ktr_room); (case hu => ktr_room); (case G => ktr_rel); (case x0 => first | assumption | ((repeat refine len_step (by assumption) ?_ (by rfl)); exact Nat.le_of_ble_eq_true (by rfl)) | omega); (case x1 => first | assumption | ((repeat refine len_step (by assumption) ?_ (by rfl)); exact Nat.le_of_ble_eq_true (by rfl)) | omega); (case x2 => first | assumption | ((repeat refine len_step (by assumption) ?_ (by rfl)); exact Nat.le_of_ble_eq_true (by rfl)) | omega); k_whole); (try dsimp only); intro _ _ _ _ _ _ _; (try k_sweep)))) | walk1 | (dsimp only; walk1) | (leave1; walk_say "STEP leave1"; try dsimp only) | fail "no step")
    refine' h _ _ _ _ _ hB ?kF ?kN; (case kF => assumption); (case kN => assumption)
end
end
-- A_envs
section
local macro_rules | `(tactic| walk_at "none such") => `(tactic| skip)
local macro_rules | `(tactic| walk_at "exec While") => `(tactic| (refine Hold.out ?_))
section
variable {prog : Program} {w : World} {A A₀ : Around} {base : Heap} {outer : List Env} {env : Env} {h₀ : Heap} {L : Addr} {m : Str → Option Value} {mean : ExcName → Option Value} {mg mb : Str → Option Value} {loose : List Str} {E : Value → Shared → Prop} {s : Shared} {Q : Value → Shared → Prop}
  (B : Below A₀ base outer h₀) (F : Fr h₀ L s.heap m) (X : (kK w.params).In h₀) (T : Top kQ loose mean mg mb h₀) (hA : A.frames = some (env :: outer)) (hf : env.frame = some L) (hke : env.scope.kind = .function) (hH : A.handled = none) (hd : A.depth ≤ 480) (hu : A.units ≤ 4800)
  {kt ks : Nat → Tok} {sy rows md mm sd st hp sk tr xl ro ba : Addr} {t1 t2 t3 tb0 tmd tms tcp te tb ts1 thb tbb : Tok} {cp e b hbv bbv : Int} {nk nh nt nx nr : Nat} {stk hpv xs rws : List Value} {tl : List (Addr × Obj)}
  (G : Geo rows md mm sd st hp sk tr xl tl) (N : News h₀ L s.heap ((mm, instObj 534 md) :: (md, dictOf (mD w kt sy rows st xl ro ba t1 t2 t3 tb0 tmd tms cp tcp e te b tb) 18) :: (st, instObj 374 sd) :: (sd, dictOf (sD w ks sy hp sk tr ts1 hbv thb bbv tbb) 7) :: (sk, W.listOf (List.toArray stk) nk) :: (hp, W.listOf (List.toArray hpv) nh) :: (tr, W.listOf #[] nt) :: (xl, W.listOf (List.toArray xs) nx) :: (rows, W.listOf (List.toArray rws) nr) :: tl))
include B F X T hA hf hke hH hd hu G N
theorem c_envs {es : List Int} (hl : Links (At stk) e es) (hz : es.length ≤ 1000)
    (h : ∀ h' tk D vs n', IntsAre vs es → Geo rows md mm sd st hp sk tr xl ((D, W.listOf vs.toArray n') :: tl) → Fr h₀ L h' m → News h₀ L h' ((mm, instObj 534 md) :: (md, dictOf (mD w kt sy rows st xl ro ba t1 t2 t3 tb0 tmd tms cp tcp e te b tb) 18) :: (st, instObj 374 sd) :: (sd, dictOf (sD w ks sy hp sk tr ts1 hbv thb bbv tbb) 7) :: (sk, W.listOf (List.toArray stk) nk) :: (hp, W.listOf (List.toArray hpv) nh) :: (tr, W.listOf #[] nt) :: (xl, W.listOf (List.toArray xs) nx) :: (rows, W.listOf (List.toArray rws) nr) :: (D, W.listOf vs.toArray n') :: tl) → Q (.ref D) { s with heap := h', toks := tk }) :
    wpAny (model prog w) A (call (.ref 531) [.ref mm]) Q E s := by
  obtain ⟨o1, o2, o3, o4, o5, o6, o7, o8, hT⟩ := id G
  obtain ⟨g2, g3, g4, g5, g6, g7, g8⟩ := G.lts
  k_steps
  refine Hold.mk ?_
  rename_i D hA l1 hB hC F9 N9
  obtain ⟨q1, q2, q3, q4, q5, q6, q7, q8, q9, qA⟩ := l1
  have hD : Off [D] tl := fun p hp q hq => by rw [List.mem_singleton.mp hq]; exact Nat.ne_of_lt (tb_ltOf qA p hp)
  have GD : ∀ vs n', Geo rows md mm sd st hp sk tr xl ((D, W.listOf (List.toArray vs) n') :: tl) := fun vs n' => Geo.consT G (by assumption)
  refine While_inv (ChJ (At stk) es D ((mm, instObj 534 md) :: (md, dictOf (mD w kt sy rows st xl ro ba t1 t2 t3 tb0 tmd tms cp tcp e te b tb) 18) :: (st, instObj 374 sd) :: (sd, dictOf (sD w ks sy hp sk tr ts1 hbv thb bbv tbb) 7) :: (sk, W.listOf (List.toArray stk) nk) :: (hp, W.listOf (List.toArray hpv) nh) :: (tr, W.listOf #[] nt) :: (xl, W.listOf (List.toArray xs) nx) :: (rows, W.listOf (List.toArray rws) nr) :: tl) (Str.ofString "e") _) (n₀ := es.length) F9 N9 ⟨[], es, [], 0, e, te, rfl, rfl, .nil, by simp, hl, rfl, rfl⟩ ?_
  rintro n m₁ news₁ h₁ tk₁ F1 N1 ⟨es1, es2, vs, k, e', te', he, hn, hi, hlen, hlk, rfl, rfl⟩
  cases es2 with
  | nil =>
    have hneg : e' < 0 := hlk
    rw [List.append_nil] at he
    subst he
    clear N9 F9
    k_steps
    rename News _ _ _ _ => N9
    have N9 := News.mv1 N9
    refine' h _ _ _ _ _ hi (GD _ _) ?kF ?kN; (case kF => assumption); (case kN => assumption)
  | cons x r =>
    obtain ⟨rfl, hx0, e2, t2, ha, hr⟩ := hlk
    simp only [List.length_cons] at hn
    clear N9 F9
    k_steps
    refine' WhileStep.intro (n' := r.length) ?kF ?kN (by omega) ⟨es1 ++ [e'], r, vs ++ [.int e' te'], k + 1, e2, t2, by rw [he]; simp, rfl, ints_snoc hi _ _, by simp; omega, hr, nm0, rfl⟩; (case kF => assumption); (case kN => assumption)
end
end
-- A_choices
section
local macro_rules | `(tactic| walk_at "none such") => `(tactic| skip)
local macro_rules | `(tactic| walk_at "exec While") => `(tactic| (refine Hold.out ?_))
local macro_rules | `(tactic| walk_at "exec While Compare cons nil") => `(tactic| (refine Hold.out ?_))
section
variable {prog : Program} {w : World} {A A₀ : Around} {base : Heap} {outer : List Env} {env : Env} {h₀ : Heap} {L : Addr} {m : Str → Option Value} {mean : ExcName → Option Value} {mg mb : Str → Option Value} {loose : List Str} {E : Value → Shared → Prop} {s : Shared} {Q : Value → Shared → Prop}
  (B : Below A₀ base outer h₀) (F : Fr h₀ L s.heap m) (X : (kK w.params).In h₀) (T : Top kQ loose mean mg mb h₀) (hA : A.frames = some (env :: outer)) (hf : env.frame = some L) (hke : env.scope.kind = .function) (hH : A.handled = none) (hd : A.depth ≤ 480) (hu : A.units ≤ 4800)
  {kt ks : Nat → Tok} {sy rows md mm sd st hp sk tr xl ro ba : Addr} {t1 t2 t3 tb0 tmd tms tcp te tb ts1 thb tbb : Tok} {cp e b hbv bbv : Int} {nk nh nt nx nr : Nat} {stk hpv xs rws : List Value} {tl : List (Addr × Obj)}
  (G : Geo rows md mm sd st hp sk tr xl tl) (N : News h₀ L s.heap ((mm, instObj 534 md) :: (md, dictOf (mD w kt sy rows st xl ro ba t1 t2 t3 tb0 tmd tms cp tcp e te b tb) 18) :: (st, instObj 374 sd) :: (sd, dictOf (sD w ks sy hp sk tr ts1 hbv thb bbv tbb) 7) :: (sk, W.listOf (List.toArray stk) nk) :: (hp, W.listOf (List.toArray hpv) nh) :: (tr, W.listOf #[] nt) :: (xl, W.listOf (List.toArray xs) nx) :: (rows, W.listOf (List.toArray rws) nr) :: tl))
include B F X T hA hf hke hH hd hu G N
theorem c_choices {es : List Int} (hl : Links (fun x v => ∃ c tc, At stk x (.int c tc) ∧ At stk (x + c + 3) v) b es) (hz : es.length ≤ 1000)
    (h : ∀ h' tk D vs n', IntsAre vs es → Geo rows md mm sd st hp sk tr xl ((D, W.listOf vs.toArray n') :: tl) → Fr h₀ L h' m → News h₀ L h' ((mm, instObj 534 md) :: (md, dictOf (mD w kt sy rows st xl ro ba t1 t2 t3 tb0 tmd tms cp tcp e te b tb) 18) :: (st, instObj 374 sd) :: (sd, dictOf (sD w ks sy hp sk tr ts1 hbv thb bbv tbb) 7) :: (sk, W.listOf (List.toArray stk) nk) :: (hp, W.listOf (List.toArray hpv) nh) :: (tr, W.listOf #[] nt) :: (xl, W.listOf (List.toArray xs) nx) :: (rows, W.listOf (List.toArray rws) nr) :: (D, W.listOf vs.toArray n') :: tl) → Q (.ref D) { s with heap := h', toks := tk }) :
    wpAny (model prog w) A (call (.ref 524) [.ref mm]) Q E s := by
  obtain ⟨o1, o2, o3, o4, o5, o6, o7, o8, hT⟩ := id G
  obtain ⟨g2, g3, g4, g5, g6, g7, g8⟩ := G.lts
  k_steps
  refine Hold.mk ?_
  rename_i D hA l1 hB hC F9 N9
  obtain ⟨q1, q2, q3, q4, q5, q6, q7, q8, q9, qA⟩ := l1
  have hD : Off [D] tl := fun p hp q hq => by rw [List.mem_singleton.mp hq]; exact Nat.ne_of_lt (tb_ltOf qA p hp)
  have GD : ∀ vs n', Geo rows md mm sd st hp sk tr xl ((D, W.listOf (List.toArray vs) n') :: tl) := fun vs n' => Geo.consT G (by assumption)
  refine While_inv (ChJ _ es _ ((mm, instObj 534 md) :: (md, dictOf (mD w kt sy rows st xl ro ba t1 t2 t3 tb0 tmd tms cp tcp e te b tb) 18) :: (st, instObj 374 sd) :: (sd, dictOf (sD w ks sy hp sk tr ts1 hbv thb bbv tbb) 7) :: (sk, W.listOf (List.toArray stk) nk) :: (hp, W.listOf (List.toArray hpv) nh) :: (tr, W.listOf #[] nt) :: (xl, W.listOf (List.toArray xs) nx) :: (rows, W.listOf (List.toArray rws) nr) :: tl) (Str.ofString "b") _) (n₀ := es.length) F9 N9 ⟨[], es, [], 0, b, tb, rfl, rfl, .nil, by simp, hl, rfl, rfl⟩ ?_
  rintro n m₁ news₁ h₁ tk₁ F1 N1 ⟨es1, es2, vs, k, e', te', he, hn, hi, hlen, hlk, rfl, rfl⟩
  cases es2 with
  | nil =>
    have hneg : e' < 0 := hlk
    rw [List.append_nil] at he
    subst he
    clear N9 F9
    k_steps
    rename News _ _ _ _ => N9
    have N9 := News.mv1 N9
    refine' h _ _ _ _ _ hi (GD _ _) ?kF ?kN; (case kF => assumption); (case kN => assumption)
  | cons x r =>
    obtain ⟨rfl, hx0, e2, t2, ⟨c, tc, ha1, ha⟩, hr⟩ := hlk
    simp only [List.length_cons] at hn
    clear N9 F9
    k_steps
    refine' WhileStep.intro (n' := r.length) ?kF ?kN (by omega) ⟨es1 ++ [e'], r, vs ++ [.int e' te'], k + 1, e2, t2, by rw [he]; simp, rfl, ints_snoc hi _ _, by simp; omega, hr, nm0, rfl⟩; (case kF => assumption); (case kN => assumption)
end
end
-- A_choose
section
section
variable {prog : Program} {w : World} {A A₀ : Around} {base : Heap} {outer : List Env} {env : Env} {h₀ : Heap} {L : Addr} {m : Str → Option Value} {mean : ExcName → Option Value} {mg mb : Str → Option Value} {loose : List Str} {E : Value → Shared → Prop} {s : Shared} {Q : Value → Shared → Prop}
  (B : Below A₀ base outer h₀) (F : Fr h₀ L s.heap m) (X : (kK w.params).In h₀) (T : Top kQ loose mean mg mb h₀) (hA : A.frames = some (env :: outer)) (hf : env.frame = some L) (hke : env.scope.kind = .function) (hH : A.handled = none) (hd : A.depth ≤ 480) (hu : A.units ≤ 4800)
include B F X T hA hf hke hH hd hu
theorem c_choose {sp : Addr} {vs : List Value} {ns : List Int} {k : Nat} {rest : List (Addr × Obj)} {many : Int} {tm : Tok} (N : News h₀ L s.heap ((sp, W.listOf vs.toArray k) :: rest)) (hr : Off [sp] rest) (hi : IntsAre vs ns) (hz : vs.length ≤ 10000) (hm : 0 < many) (hm2 : many ≤ 1000)
    (h : ∀ h' tk vs' ns' k' v tv, IntsAre vs' ns' → vs'.length ≤ vs.length → 0 ≤ v → v < many → Fr h₀ L h' m → News h₀ L h' ((sp, W.listOf (List.toArray vs') k') :: rest) → Q (.int v tv) { s with heap := h', toks := tk }) :
    wpAny (model prog w) A (call (.ref 552) [.ref sp, .int many tm]) Q E s := by
  by_cases hne : 0 < vs.length
  · k_steps
    · refine' h _ _ _ _ _ _ _ hi (Nat.le_refl _) (by omega) (by omega) ?kF ?kN; (case kF => assumption); (case kN => first | assumption | exact News.tail9 (by assumption))
    · rename IntsAre (List.dropLast _) _ => hI9
      refine' h _ _ _ _ _ _ _ hI9 (by rw [List.length_dropLast]; omega) (Int.fmod_nonneg_of_pos _ hm) (Int.fmod_lt_of_pos _ hm) ?kF ?kN; (case kF => assumption); (case kN => first | assumption | exact News.tail9 (by assumption))
  · have hvs : vs = [] := List.eq_nil_of_length_eq_zero (by omega)
    subst hvs
    obtain rfl : ns = [] := by cases hi; rfl
    k_steps
    refine' h _ _ _ _ _ _ _ hi (Nat.le_refl _) (by omega) (by omega) ?kF ?kN; (case kF => assumption); (case kN => first | assumption | exact News.tail9 (by assumption))
end
end
-- A_digits
section
local macro_rules | `(tactic| walk_at "pyIter ref") => `(tactic| (refine Hold.out ?_))
section
variable {prog : Program} {w : World} {A A₀ : Around} {base : Heap} {outer : List Env} {env : Env} {h₀ : Heap} {L : Addr} {m : Str → Option Value} {mean : ExcName → Option Value} {mg mb : Str → Option Value} {loose : List Str} {E : Value → Shared → Prop} {s : Shared} {Q : Value → Shared → Prop}
  (B : Below A₀ base outer h₀) (F : Fr h₀ L s.heap m) (X : (kK w.params).In h₀) (T : Top kQ loose mean mg mb h₀) (hA : A.frames = some (env :: outer)) (hf : env.frame = some L) (hke : env.scope.kind = .function) (hH : A.handled = none) (hd : A.depth ≤ 480) (hu : A.units ≤ 4800)
include B F X T hA hf hke hH hd hu
theorem c_digits {sc : Addr} {vs0 : List Value} {ns0 : List Int} (N : News h₀ L s.heap []) (hl : base.IsList sc vs0.toArray) (hi : IntsAre vs0 ns0) (hz : ns0.length ≤ 63)
    (h : ∀ h' tk sp vs' ns' k', IntsAre vs' ns' → vs'.length ≤ 150 → Fr h₀ L h' m → News h₀ L h' [(sp, W.listOf (List.toArray vs') k')] → Q (.ref sp) { s with heap := h', toks := tk }) :
    wpAny (model prog w) A (call (.ref 545) [.ref sc]) Q E s := by
  k_steps
  refine Hold.mk ?_
  rename_i sp hA lT hB D ws hC F9 N9 hI9 hC9 hL9 l9
  refine' listS (n := 0) (M2 (Str.ofString "left_of") (Str.ofString "lap") (fun (q : (List Value × Nat) × Option Value × Option Value) => q.2.1) (fun q => q.2.2) _) (fun q => [(D, W.listOf ws.toArray 0), (sp, W.listOf (List.toArray q.1.1) q.1.2)]) (fun i q => (∃ ns, IntsAre q.1.1 ns) ∧ q.1.1.length ≤ 12 * i) (([], 0), _, _) hH F9 N9 (.head _) rfl rfl (M2_start rfl rfl) rfl (fun _ => .head _) ⟨⟨[], .nil⟩, by simp⟩ ?turn ?done
  case turn =>
    rintro i ⟨⟨vsB, kB⟩, a1, a2⟩ v h' tk' I it hi' ⟨⟨nsB, hnB⟩, hB1⟩ ho hI F' N'
    k_lt hI
    obtain ⟨cell, tc, rfl⟩ := ints_at hI9 hi'
    dsimp only [envOf, M2] at hnB hB1 ho F' N'
    have hlt := (List.getElem?_eq_some_iff.mp hi').1
    have hwl := hI9.length
    clear N9 F9
    k_steps
    · refine Hold.mk ?_
      rename_i h8 h9 tk9 t9 u9 v9 R9 F9 N9 a9
      refine' rangeS (n := 12) (M1 (Str.ofString "left_of") (fun (q : List Value × Nat × Int × Tok) => Value.int q.2.2.1 q.2.2.2) _) (fun q => [(I, it), (D, W.listOf ws.toArray 0), (sp, W.listOf (List.toArray q.1) q.2.1)]) (fun j q => (∃ ns, IntsAre q.1 ns) ∧ q.1.length ≤ 12 * i + j) (vsB, kB, _, _) hH R9 (small1 (by decide) (by decide)) (size1 (by decide)) F9 N9 (fun _ _ => rfl) rfl ⟨⟨nsB, hnB⟩, by dsimp only; omega⟩ ?turn2 ?done2
      case turn2 =>
        rintro j ⟨vsC, kC, lv, tlv⟩ t h' tk' I2 it2 hj ⟨⟨nsC, hnC⟩, hC1⟩ ho2 hI2 F' N'
        k_lt hI2
        dsimp only [envOf, M1] at hnC hC1 ho2 F' N'
        clear N9 F9
        have hsn := fun x t => ints_snoc hnC x t
        k_steps
        · rename Fr _ _ _ _ => F8
          rename News _ _ _ _ => N8
          try dsimp only [LpPost]
          refine LpEnd.M2i (_, _) F8 (fun y h1 h2 h3 => by simp only [if_neg h1, if_neg h2, if_neg h3]) (News.tail9 N8) (off_same ho) ⟨⟨_, hsn _ _⟩, by dsimp only; rw [List.length_append, List.length_singleton]; omega⟩
        · rename Fr _ _ _ _ => F8
          rename News _ _ _ _ => N8
          try dsimp only [LpPost]
          refine LpEnd.intro (_, _, _, _) F8 nm1 N8 (off_same ho2) ⟨⟨_, hsn _ _⟩, by dsimp only; rw [List.length_append, List.length_singleton]; omega⟩
      case done2 =>
        rintro ⟨vsC, kC, lv, tlv⟩ u h' tk' ⟨⟨nsC, hnC⟩, hC1⟩ F' N'
        dsimp only [envOf, M1] at hnC hC1 F' N'
        clear N9 F9
        k_steps
        try dsimp only [LpPost]
        refine LpEnd.M2i (_, _) F' (fun y h1 h2 h3 => by simp only [if_neg h1, if_neg h2, if_neg h3]) N' (off_same ho) ⟨⟨_, hnC⟩, by dsimp only; omega⟩
    · refine Hold.mk ?_
      rename_i h8 h9 tk9 t9 u9 v9 R9 F9 N9 a9
      refine' rangeS (n := 12) (M1 (Str.ofString "left_of") (fun (q : List Value × Nat × Int × Tok) => Value.int q.2.2.1 q.2.2.2) _) (fun q => [(I, it), (D, W.listOf ws.toArray 0), (sp, W.listOf (List.toArray q.1) q.2.1)]) (fun j q => (∃ ns, IntsAre q.1 ns) ∧ q.1.length ≤ 12 * i + j) (vsB, kB, _, _) hH R9 (small1 (by decide) (by decide)) (size1 (by decide)) F9 N9 (fun _ _ => rfl) rfl ⟨⟨nsB, hnB⟩, by dsimp only; omega⟩ ?turn2 ?done2
      case turn2 =>
        rintro j ⟨vsC, kC, lv, tlv⟩ t h' tk' I2 it2 hj ⟨⟨nsC, hnC⟩, hC1⟩ ho2 hI2 F' N'
        k_lt hI2
        dsimp only [envOf, M1] at hnC hC1 ho2 F' N'
        clear N9 F9
        have hsn := fun x t => ints_snoc hnC x t
        k_steps
        · rename Fr _ _ _ _ => F8
          rename News _ _ _ _ => N8
          try dsimp only [LpPost]
          refine LpEnd.M2i (_, _) F8 (fun y h1 h2 h3 => by simp only [if_neg h1, if_neg h2, if_neg h3]) (News.tail9 N8) (off_same ho) ⟨⟨_, hsn _ _⟩, by dsimp only; rw [List.length_append, List.length_singleton]; omega⟩
        · rename Fr _ _ _ _ => F8
          rename News _ _ _ _ => N8
          try dsimp only [LpPost]
          refine LpEnd.intro (_, _, _, _) F8 nm1 N8 (off_same ho2) ⟨⟨_, hsn _ _⟩, by dsimp only; rw [List.length_append, List.length_singleton]; omega⟩
      case done2 =>
        rintro ⟨vsC, kC, lv, tlv⟩ u h' tk' ⟨⟨nsC, hnC⟩, hC1⟩ F' N'
        dsimp only [envOf, M1] at hnC hC1 F' N'
        clear N9 F9
        k_steps
        try dsimp only [LpPost]
        refine LpEnd.M2i (_, _) F' (fun y h1 h2 h3 => by simp only [if_neg h1, if_neg h2, if_neg h3]) N' (off_same ho) ⟨⟨_, hnC⟩, by dsimp only; omega⟩
  case done =>
    rintro ⟨⟨vsB, kB⟩, a1, a2⟩ u h' tk' ⟨⟨nsB, hnB⟩, hB1⟩ F' N'
    dsimp only [envOf, M2] at hnB hB1 F' N'
    have hwl := hI9.length
    clear N9 F9
    k_steps
    rename_i D2 ws2 h8 hI2 hC2 hL2 l2 h9 F8 N8
    refine reverse_head F8 N8 (by intro p hp; simp only [List.mem_cons, List.not_mem_nil, or_false] at hp; rcases hp with rfl | rfl; exact Nat.ne_of_lt l2.1; exact Nat.ne_of_lt l2.2.1) (fun h7 F7 N7 => ?_) (by rw [List.size_toArray, hI2.length, sizeLine_eq]; omega)
    have hI3 := ints_rev hI2
    have hl3 := hI2.length
    clear N8 F8
    k_steps
    refine' h _ _ _ ws2.reverse _ _ hI3 (by rw [List.length_reverse]; omega) ?kF ?kN; (case kF => assumption)
    case kN => 
      rename News _ _ _ _ => N6
      exact fun p hp => N6 p (by simp only [List.mem_singleton] at hp; subst hp; exact .head _)
end
end
-- S0
section

def DInt (D : List (PyData × PyData)) : Prop := ∀ p ∈ D, ∃ i : Int, p.2 = PyData.int i
theorem DInt.put {D : List (PyData × PyData)} (h : DInt D) (k : PyData) (i : Int) : DInt (PyProof.V.putD k (.int i) D) := by
  intro p hp
  unfold PyProof.V.putD at hp
  split at hp
  · obtain ⟨q, hq, rfl⟩ := List.mem_map.mp hp
    split
    · exact ⟨i, rfl⟩
    · exact h q hq
  · rcases List.mem_append.mp hp with hp | hp
    · exact h p hp
    · rw [List.mem_singleton.mp hp]; exact ⟨i, rfl⟩
theorem DInt.get {D : List (PyData × PyData)} (h : DInt D) (k : PyData) (z : Int) : ∃ i : Int, (PySem.Spec.lookup k D).getD (.int z) = .int i := by
  induction D with
  | nil => exact ⟨z, rfl⟩
  | cons p r ih =>
    obtain ⟨a, b⟩ := p
    unfold PySem.Spec.lookup
    split
    · obtain ⟨i, hi⟩ := h (a, b) (.head _)
      exact ⟨i, by dsimp only at hi; rw [hi]; rfl⟩
    · exact ih fun p hp => h p (.tail _ hp)
theorem off5_cons {sy sd tx fn ad a : Addr} {o : Obj} {tl : List (Addr × Obj)} (hT : Off [sy, sd, tx, fn, ad] tl) (h : @Ne Nat a sy ∧ @Ne Nat a sd ∧ @Ne Nat a tx ∧ @Ne Nat a fn ∧ @Ne Nat a ad) : Off [sy, sd, tx, fn, ad] ((a, o) :: tl) := by
  intro p hp q hq
  rcases List.mem_cons.mp hp with rfl | hp
  · obtain ⟨h1, h2, h3, h4, h5⟩ := h
    simp only [List.mem_cons, List.not_mem_nil, or_false] at hq
    rcases hq with rfl | rfl | rfl | rfl | rfl <;> assumption
  · exact hT p hp q hq
theorem off5_lt {sy sd tx fn ad : Addr} {tl : List (Addr × Obj)} (h : ∀ p ∈ tl, p.1 < sd) (h1 : @LT.lt Nat _ sd sy) (h2 : @LT.lt Nat _ sd tx) (h3 : @LT.lt Nat _ sd fn) (h4 : @LT.lt Nat _ sd ad) : Off [sy, sd, tx, fn, ad] tl := by
  intro p hp q hq
  have h0 := h p hp
  simp only [List.mem_cons, List.not_mem_nil, or_false] at hq
  rcases hq with rfl | rfl | rfl | rfl | rfl
  · exact Nat.ne_of_lt (Nat.lt_trans h0 h1)
  · exact Nat.ne_of_lt h0
  · exact Nat.ne_of_lt (Nat.lt_trans h0 h2)
  · exact Nat.ne_of_lt (Nat.lt_trans h0 h3)
  · exact Nat.ne_of_lt (Nat.lt_trans h0 h4)
theorem News.mv5 {h₀ h : Heap} {L : Addr} {t a1 a2 a3 a4 a5 : Addr × Obj} {tl : List (Addr × Obj)} (N : News h₀ L h (t :: a1 :: a2 :: a3 :: a4 :: a5 :: tl)) : News h₀ L h (a1 :: a2 :: a3 :: a4 :: a5 :: t :: tl) :=
  News.swapG [t] [a1, a2, a3, a4, a5] N
theorem News.vm5 {h₀ h : Heap} {L : Addr} {t a1 a2 a3 a4 a5 : Addr × Obj} {tl : List (Addr × Obj)} (N : News h₀ L h (a1 :: a2 :: a3 :: a4 :: a5 :: t :: tl)) : News h₀ L h (t :: a1 :: a2 :: a3 :: a4 :: a5 :: tl) :=
  News.swapG [a1, a2, a3, a4, a5] [t] N
theorem News.perm7 {h₀ h : Heap} {L : Addr} {a1 a2 a3 a4 a5 a6 a7 : Addr × Obj} {tl : List (Addr × Obj)} (N : News h₀ L h (a1 :: a2 :: a3 :: a4 :: a5 :: a6 :: a7 :: tl)) : News h₀ L h (a6 :: a7 :: a5 :: a3 :: a4 :: a1 :: a2 :: tl) :=
  News.pick [a1, a2, a3, a4, a5, a6, a7] [a6, a7, a5, a3, a4, a1, a2] [5, 6, 4, 2, 3, 0, 1] N rfl
abbrev kqOf (t0 t1 t2 t3 : Tok) : Nat → Tok := fun i => match i with
  | 0 => t0
  | 1 => t1
  | 2 => t2
  | _ => t3
abbrev yD (w : World) (kq : Nat → Tok) (tx ad fn fd : Addr) : List DictEntry :=
  [en w "texts" (kq 0) (.ref tx), en w "atom_numbers" (kq 1) (.ref ad), en w "functors" (kq 2) (.ref fn), en w "functor_numbers" (kq 3) (.ref fd)]
def SD (prog : Program) (w : World) (o : Obj) (n : Nat) : Prop := ∃ kvs D, o.IsDictOf (PySem.strKind prog w) kvs ∧ PyProof.V.FlatPairs PyData.str kvs D ∧ DInt D ∧ D.length ≤ n
section
variable {prog : Program} {w : World} {A : Around} {E : Value → Shared → Prop} {s : Shared} {h₀ : Heap} {L d : Addr} {m : Str → Option Value} {news : List (Addr × Obj)} {g : Obj → List (Addr × Obj)} {o : Obj} {n : Nat}
theorem SD.tab (hS : SD prog w o n) (N : News h₀ L s.heap news) (hm : (d, o) ∈ news) (lo : (d == sysModules) = false) : ∃ D, StrTab prog w s.heap d D ∧ DInt D := by
  obtain ⟨kvs, D, a, b, c, _⟩ := hS
  exact ⟨D, TabAt.ofNews N hm lo a b, c⟩
theorem SD.mono (hS : SD prog w o n) {k : Nat} (hk : n ≤ k) : SD prog w o k := let ⟨kvs, D, a, b, c, e⟩ := hS; ⟨kvs, D, a, b, c, Nat.le_trans e hk⟩
theorem SD.cls (hS : SD prog w o n) : o.cls = .type "dict" := let ⟨_, _, a, _⟩ := hS; let ⟨_, _, x, _⟩ := a; x.1
theorem off_filter {l : List (Addr × Obj)} {fx : List Addr} : Off fx (l.filter fun p => decide (p.1 ∉ fx)) := fun p hp q hq e => (of_decide_eq_true (List.mem_filter.mp hp).2) (e ▸ hq)
theorem TupTab.mono {K : Type} [DecidableEq K] {knd : KeyKind prog w K} {enc : K → PyData} {l l' : List (Addr × Obj)} {D : List (PyData × PyData)} (T : TupTab knd enc l d D) (hs : ∀ p ∈ l, p ∈ l') : TupTab knd enc l' d D :=
  let ⟨lo, o, es, ep, xs, hm, hc, hd, he, hn, hk, hf⟩ := T
  ⟨lo, o, es, ep, xs, hs _ hm, hc, hd, he, hn, fun x hx => let ⟨okx, hmk, t⟩ := hk x hx; ⟨okx, hs _ hmk, t⟩, hf⟩
theorem TupTab.filter {K : Type} [DecidableEq K] {knd : KeyKind prog w K} {enc : K → PyData} {h : Heap} {l : List (Addr × Obj)} {D : List (PyData × PyData)} {fx : List Addr} (N : News h₀ L h l) (T : TupTab knd enc l d D) (hk : ∀ a ∈ fx, ∃ o, (a, o) ∈ l ∧ o.cls ≠ .type "tuple") (hd : d ∉ fx) : TupTab knd enc (l.filter fun p => decide (p.1 ∉ fx)) d D := by
  obtain ⟨lo, o, es, ep, xs, hm, hc, hdd, he, hn, hkk, hf⟩ := T
  refine ⟨lo, o, es, ep, xs, List.mem_filter.mpr ⟨hm, by simpa using hd⟩, hc, hdd, he, hn, fun x hx => ?_, hf⟩
  obtain ⟨okx, hmk, t⟩ := hkk x hx
  refine ⟨okx, List.mem_filter.mpr ⟨hmk, ?_⟩, t⟩
  rw [decide_eq_true_eq]
  intro hin
  obtain ⟨o2, ho2, hc2⟩ := hk _ hin
  have e1 := (N _ hmk).1
  have e2 := (N _ ho2).1
  rw [e1] at e2
  have e3 : okx = o2 := Option.some.inj e2
  exact hc2 (e3 ▸ t.1)
theorem my_tmeth {D : List (PyData × PyData)} {pl : Sem Bool} {Q : Value × List Value → Shared → Prop} (T : TupTab (PySem.intKind prog w) PyData.int news d D) (N : News h₀ L s.heap news) (h : Q (.builtin "dict.get", [.ref d]) s) :
    wpAny (model prog w) A (getMethod (.ref d) "get" pl) Q E s := getMethod_tupTab_get N T h
theorem my_tget {q : Addr} {a k z : Int} {ta tk tz : Tok} {D : List (PyData × PyData)} {Q : Value → Shared → Prop} (hu : A.units + 1 < cLine) (T : TupTab (PySem.intKind prog w) PyData.int news d D) (hD : DInt D) (N : News h₀ L s.heap news) (hq : (q, tupOf [.int a ta, .int k tk] 0) ∈ news) (h : ∀ i t' tk', Q (.int i t') { s with toks := tk' }) :
    wpAny (model prog w) A (call (.builtin "dict.get") [.ref d, .ref q, .int z tz]) Q E s := by
  refine call_get2_tupTab (ks := [a, k]) PyProof.V.same_int hu N T hq ⟨rfl, _, _, rfl, .cons (PySem.intKind_is prog w a ta) (.cons (PySem.intKind_is prog w k tk) .nil)⟩ (PyProof.V.Flat.int z tz) fun v hv => ?_
  obtain ⟨i, hi⟩ := hD.get (encTuple PyData.int [a, k]) z
  rw [hi] at hv
  obtain ⟨t', rfl⟩ := hv.int_inv
  exact h i t' _
theorem my_tset {q : Addr} {a k i : Int} {ta tk ti : Tok} {D : List (PyData × PyData)} {Q : Unit → Shared → Prop} (hu : A.units + 1 < cLine) (F : Fr h₀ L s.heap m) (T : TupTab (PySem.intKind prog w) PyData.int news d D) (hD : DInt D) (hDn : D.length ≤ 1000) (N : News h₀ L s.heap news) (hq : (q, tupOf [.int a ta, .int k tk] 0) ∈ news)
    (h : ∀ h' news' D' tk', Fr h₀ L h' m → News h₀ L h' news' → TupTab (PySem.intKind prog w) PyData.int news' d D' → DInt D' → D'.length ≤ D.length + 1 → (∀ p ∈ news, p.1 ≠ d → p ∈ news') → Q () { s with heap := h', toks := tk' }) :
    wpAny (model prog w) A (setItem (.ref d) (.ref q) (.int i ti)) Q E s := by
  refine setItem_tupTab (ks := [a, k]) (hsz := by rw [sizeLine_eq]; omega) PyProof.V.same_int hu (PyProof.V.Flat.int i ti) F N T hq ⟨rfl, _, _, rfl, .cons (PySem.intKind_is prog w a ta) (.cons (PySem.intKind_is prog w k tk) .nil)⟩ fun h' news' F' N' T' _ hk => ?_
  exact h h' news' _ _ F' N' T' (hD.put _ _) (PyProof.V.putD_length_le _ _ _) hk
theorem my_smeth {pl : Sem Bool} {Q : Value × List Value → Shared → Prop} (hS : SD prog w o n) (N : News h₀ L s.heap news) (hm : (d, o) ∈ news) (lo : (d == sysModules) = false) (h : Q (.builtin "dict.get", [.ref d]) s) :
    wpAny (model prog w) A (getMethod (.ref d) "get" pl) Q E s := by
  obtain ⟨D, T, _⟩ := hS.tab (s := s) N hm lo
  exact getMethod_strTab_get T h
theorem my_sget {x : Str} {t : Tok} {z : Int} {tz : Tok} {Q : Value → Shared → Prop} (hS : SD prog w o n) (N : News h₀ L s.heap news) (hm : (d, o) ∈ news) (lo : (d == sysModules) = false) (h : ∀ i t', Q (.int i t') { s with toks := s.toks + 1 }) :
    wpAny (model prog w) A (call (.builtin "dict.get") [.ref d, .str x t, .int z tz]) Q E s := by
  obtain ⟨D, T, hD⟩ := hS.tab (s := s) N hm lo
  refine call_get2_strTab T (PyProof.V.Flat.int z tz) fun v hv => ?_
  obtain ⟨i, hi⟩ := hD.get (.str x) z
  rw [hi] at hv
  obtain ⟨t', rfl⟩ := hv.int_inv
  exact h i t'
theorem my_sset {x : Str} {t : Tok} {i : Int} {ti : Tok} {Q : Unit → Shared → Prop} (hS : SD prog w o n) (F : Fr h₀ L s.heap m) (N : News h₀ L s.heap news) (U : UpdF d o news g) (hn : n ≤ 1000)
    (h : ∀ h' o', Fr h₀ L h' m → News h₀ L h' (g o') → SD prog w o' (n + 1) → Q () { s with heap := h', toks := s.toks + 1 }) : wpAny (model prog w) A (setItem (.ref d) (.str x t) (.int i ti)) Q E s := by
  obtain ⟨kvs, D, a, b, c, e⟩ := hS
  refine setItem_K (enc := PyData.str) PyProof.V.same_str (PySem.strKind_is prog w x t) (PyProof.V.Flat.int i ti) F N U a b (fun h' o' F' N' a' b' => h h' o' F' N' ⟨_, _, a', b', c.put _ _, ?_⟩) (by rw [sizeLine_eq]; omega)
  exact Nat.le_trans (PyProof.V.putD_length_le _ _ _) (by omega)
end
end
-- S_atom
section
local macro_rules | `(tactic| walk_at "none such") => `(tactic| skip)
local macro_rules | `(tactic| walk_at "none such") => `(tactic| skip)
section
variable {prog : Program} {w : World} {A A₀ : Around} {base : Heap} {outer : List Env} {env : Env} {h₀ : Heap} {L : Addr} {m : Str → Option Value} {mean : ExcName → Option Value} {mg mb : Str → Option Value} {loose : List Str} {E : Value → Shared → Prop} {s : Shared} {Q : Value → Shared → Prop}
  (B : Below A₀ base outer h₀) (F : Fr h₀ L s.heap m) (X : (kK w.params).In h₀) (T : Top kQ loose mean mg mb h₀) (hA : A.frames = some (env :: outer)) (hf : env.frame = some L) (hke : env.scope.kind = .function) (hH : A.handled = none) (hd : A.depth ≤ 480) (hu : A.units ≤ 4800)
include B F X T hA hf hke hH hd hu
variable {kq : Nat → Tok} {sy sd tx ad fn fd : Addr} {vt vf : List Value} {nt nf na : Nat} {oa : Obj} {tl : List (Addr × Obj)}
  (o1 : @LT.lt Nat _ sd sy) (o2 : @LT.lt Nat _ sy tx) (o3 : @LT.lt Nat _ tx ad) (o4 : @LT.lt Nat _ ad fn) (o5 : @LT.lt Nat _ fn fd) (hT : Off [sy, sd, tx, fn, ad] tl) (lo : (ad == sysModules) = false) (hS : SD prog w oa na) (hna : na ≤ 900) (hvt : vt.length ≤ 900) (hvf : vf.length ≤ 900)
  (N : News h₀ L s.heap ((sy, instObj 154 sd) :: (sd, dictOf (yD w kq tx ad fn fd) 4) :: (tx, W.listOf (List.toArray vt) nt) :: (fn, W.listOf (List.toArray vf) nf) :: (ad, oa) :: tl))
include o1 o2 o3 o4 o5 hT lo hS hna hvt hvf N
theorem c_atom {x : Str} {t : Tok}
    (h : ∀ h' tk i ti vt' nt' oa', SD prog w oa' (na + 1) → vt'.length ≤ vt.length + 1 → Fr h₀ L h' m → News h₀ L h' ((sy, instObj 154 sd) :: (sd, dictOf (yD w kq tx ad fn fd) 4) :: (tx, W.listOf (List.toArray vt') nt') :: (fn, W.listOf (List.toArray vf) nf) :: (ad, oa') :: tl) → Q (.int i ti) { s with heap := h', toks := tk }) :
    wpAny (model prog w) A (call (.ref 88) [.ref sy, .str x t]) Q E s := by
  repeat' (first | (k_unfold; (try dsimp only)) | ((with_reducible show wpAny _ _ (setItem (Value.ref _) (Value.str _ _) (Value.int _ _)) _ _ _); k_dflt (refine' my_sset (by assumption) ?F ?N ?U ?n ?_; (case F => k_asm); (case N => k_asm); (case U => k_updF); (case n => omega); k_whole); intro _ _ _ _ _; (try k_sweep)) | ((with_reducible show wpAny _ _ (call (Value.builtin _) [Value.ref _, Value.str _ _, Value.int _ _]) _ _ _); k_dflt (refine' my_sget (by assumption) ?N ?m ?l ?_; (case N => k_asm); (case m => k_mem); (case l => assumption); k_whole); intro _ _) | ((with_reducible show wpAny _ _ (getMethod (Value.ref _) (Str.ofString "get") _) _ _ _); k_dflt (refine' my_smeth (by assumption) ?N ?m ?l ?_; (case N => k_asm); (case m => k_mem); (case l => assumption); k_whole)) | walk1 | (dsimp only; walk1) | (leave1; walk_say "STEP leave1"; try dsimp only) | fail "no step")
  · refine' h _ _ _ _ vt _ _ (hS.mono (Nat.le_succ _)) (Nat.le_succ _) ?kF ?kN; (case kF => assumption); (case kN => assumption)
  · refine' h _ _ _ _ _ _ _ (by assumption) ?kl ?kF ?kN; (case kF => assumption); (case kN => assumption); (case kl => simp)
end
end
-- S_functor
section
local macro_rules | `(tactic| walk_at "none such") => `(tactic| skip)
local macro_rules | `(tactic| walk_at "none such") => `(tactic| skip)
local macro_rules | `(tactic| walk_at "none such") => `(tactic| skip)
section
variable {prog : Program} {w : World} {A A₀ : Around} {base : Heap} {outer : List Env} {env : Env} {h₀ : Heap} {L : Addr} {m : Str → Option Value} {mean : ExcName → Option Value} {mg mb : Str → Option Value} {loose : List Str} {E : Value → Shared → Prop} {s : Shared} {Q : Value → Shared → Prop}
  (B : Below A₀ base outer h₀) (F : Fr h₀ L s.heap m) (X : (kK w.params).In h₀) (T : Top kQ loose mean mg mb h₀) (hA : A.frames = some (env :: outer)) (hf : env.frame = some L) (hke : env.scope.kind = .function) (hH : A.handled = none) (hd : A.depth ≤ 480) (hu : A.units ≤ 4800)
include B F X T hA hf hke hH hd hu
variable {kq : Nat → Tok} {sy sd tx ad fn fd : Addr} {vt vf : List Value} {nt nf na : Nat} {oa : Obj} {tl : List (Addr × Obj)}
  (o1 : @LT.lt Nat _ sd sy) (o2 : @LT.lt Nat _ sy tx) (o3 : @LT.lt Nat _ tx ad) (o4 : @LT.lt Nat _ ad fn) (o5 : @LT.lt Nat _ fn fd) (hT : Off [sy, sd, tx, fn, ad] tl) (lo : (ad == sysModules) = false) (hS : SD prog w oa na) (hna : na ≤ 900) (hvt : vt.length ≤ 900) (hvf : vf.length ≤ 900)
  (N : News h₀ L s.heap ((sy, instObj 154 sd) :: (sd, dictOf (yD w kq tx ad fn fd) 4) :: (tx, W.listOf (List.toArray vt) nt) :: (fn, W.listOf (List.toArray vf) nf) :: (ad, oa) :: tl))
include o1 o2 o3 o4 o5 hT lo hS hna hvt hvf N
theorem c_functor {D : List (PyData × PyData)} {a k : Int} {ta tk0 : Tok} (TT : TupTab (PySem.intKind prog w) PyData.int tl fd D) (hD : DInt D) (hDn : D.length ≤ 900)
    (h : ∀ h' tk i ti vf' nf' tl' D', TupTab (PySem.intKind prog w) PyData.int tl' fd D' → DInt D' → D'.length ≤ D.length + 1 → Off [sy, sd, tx, fn, ad] tl' → (∀ p ∈ tl, p.1 ≠ fd → p ∈ tl') → vf'.length ≤ vf.length + 1 → Fr h₀ L h' m → News h₀ L h' ((sy, instObj 154 sd) :: (sd, dictOf (yD w kq tx ad fn fd) 4) :: (tx, W.listOf (List.toArray vt) nt) :: (fn, W.listOf (List.toArray vf') nf') :: (ad, oa) :: tl') → Q (.int i ti) { s with heap := h', toks := tk }) :
    wpAny (model prog w) A (call (.ref 102) [.ref sy, .int a ta, .int k tk0]) Q E s := by
  repeat' (first | (k_unfold; (try dsimp only)) | ((with_reducible show wpAny _ _ (setItem (Value.ref _) (Value.ref _) (Value.int _ _)) _ _ _); k_dflt (refine' my_tset ?u ?F ?T (by assumption) ?n ?N ?m ?_; (case F => k_asm); (case N => k_asm); (case T => exact TupTab.mono (by assumption) (by intro p hp; exact .tail _ (.tail _ (.tail _ (.tail _ (.tail _ (.tail _ hp))))))); (case u => (simp only [units_in1, units_deeper, cLine_is]; omega)); (case n => omega); (case m => k_mem); k_whole); intro _ _ _ _ _ _ _ _ _ _; (try k_sweep)) | ((with_reducible show wpAny _ _ (call (Value.builtin _) [Value.ref _, Value.ref _, Value.int _ _]) _ _ _); k_dflt (refine' my_tget ?u ?T (by assumption) ?N ?m ?_; (case N => k_asm); (case T => exact TupTab.mono (by assumption) (by intro p hp; exact .tail _ (.tail _ (.tail _ (.tail _ (.tail _ (.tail _ hp))))))); (case u => (simp only [units_in1, units_deeper, cLine_is]; omega)); (case m => k_mem); k_whole); intro _ _ _) | ((with_reducible show wpAny _ _ (getMethod (Value.ref _) (Str.ofString "get") _) _ _ _); k_dflt (refine' my_tmeth ?T ?N ?_; (case N => k_asm); (case T => exact TupTab.mono (by assumption) (by intro p hp; exact .tail _ (.tail _ (.tail _ (.tail _ (.tail _ (.tail _ hp))))))); k_whole)) | walk1 | (dsimp only; walk1) | (leave1; walk_say "STEP leave1"; try dsimp only) | fail "no step")
  · rename News _ _ _ _ => N9
    have N9 := News.tail9 N9
    refine' h _ _ _ _ vf _ tl D TT hD (Nat.le_succ _) hT (fun p hp _ => hp) (Nat.le_succ _) ?kF ?kN; (case kF => assumption); (case kN => assumption)
  · rename_i h8 news8 D8 tk8 F8 N8 T8 hD8 hl8 hk8 kF kN kT kX
    have m1 := hk8 _ (.tail _ (.head _)) (Nat.ne_of_lt (show @LT.lt Nat _ sy fd by omega))
    have m2 := hk8 _ (.tail _ (.tail _ (.head _))) (Nat.ne_of_lt (show @LT.lt Nat _ sd fd by omega))
    have m3 := hk8 _ (.tail _ (.tail _ (.tail _ (.head _)))) (Nat.ne_of_lt (show @LT.lt Nat _ tx fd by omega))
    have m4 := hk8 _ (.tail _ (.tail _ (.tail _ (.tail _ (.head _))))) (Nat.ne_of_lt (show @LT.lt Nat _ fn fd by omega))
    have m5 := hk8 _ (.tail _ (.tail _ (.tail _ (.tail _ (.tail _ (.head _)))))) (Nat.ne_of_lt (show @LT.lt Nat _ ad fd by omega))
    have nfd : fd ∉ [sy, sd, tx, fn, ad] := by
      simp only [List.mem_cons, List.not_mem_nil, or_false, not_or]
      exact ⟨Nat.ne_of_gt (show @LT.lt Nat _ sy fd by omega), Nat.ne_of_gt (show @LT.lt Nat _ sd fd by omega), Nat.ne_of_gt (show @LT.lt Nat _ tx fd by omega), Nat.ne_of_gt (show @LT.lt Nat _ fn fd by omega), Nat.ne_of_gt (show @LT.lt Nat _ ad fd by omega)⟩
    have ncls : ∀ a ∈ [sy, sd, tx, fn, ad], ∃ o, (a, o) ∈ news8 ∧ o.cls ≠ .type "tuple" := by
      intro a ha
      simp only [List.mem_cons, List.not_mem_nil, or_false] at ha
      rcases ha with rfl | rfl | rfl | rfl | rfl
      · exact ⟨_, m1, fun e => by cases e⟩
      · exact ⟨_, m2, fun e => absurd (Value.type.inj e) (by decide)⟩
      · exact ⟨_, m3, fun e => absurd (Value.type.inj e) (by decide)⟩
      · exact ⟨_, m4, fun e => absurd (Value.type.inj e) (by decide)⟩
      · exact ⟨_, m5, fun e => absurd (Value.type.inj (hS.cls.symm.trans e)) (by decide)⟩
    refine' h _ _ _ _ _ _ (news8.filter fun p => decide (p.1 ∉ [sy, sd, tx, fn, ad])) D8 (TupTab.filter kN T8 ncls nfd) hD8 hl8 off_filter (fun p hp hne => List.mem_filter.mpr ⟨hk8 p (.tail _ (.tail _ (.tail _ (.tail _ (.tail _ (.tail _ hp)))))) hne, decide_eq_true fun hin => hT p hp _ hin rfl⟩) ?kl kF ?kN
    case kN =>
      intro p hp
      refine kN p ?_
      rcases List.mem_cons.mp hp with rfl | hp
      · exact m1
      rcases List.mem_cons.mp hp with rfl | hp
      · exact m2
      rcases List.mem_cons.mp hp with rfl | hp
      · exact m3
      rcases List.mem_cons.mp hp with rfl | hp
      · exact m4
      rcases List.mem_cons.mp hp with rfl | hp
      · exact m5
      exact (List.mem_filter.mp hp).1
    case kl => simp
end
end
-- S_rows
section

def strLit : PySem.Expr → Bool
  | .Constant (.str _) _ _ => true
  | _ => false
section
variable {M : Model} {A : Around} {E : Value → Shared → Prop} {env : Env}
theorem spliced_strs {pos : Pos} : ∀ (elts : List PySem.Expr) (s : Shared) (Q : List Value → Shared → Prop), elts.all strLit = true →
    (∀ vs tk, (∀ v ∈ vs, ∃ x t, v = Value.str x t) → vs.length = elts.length → Q vs { s with toks := tk }) → wpAny M A (spliced (backTo pos (starEach elts env))) Q E s
  | [], s, Q, _, h => args_nil (h [] s.toks (fun _ hv => nomatch hv) rfl)
  | e :: es, s, Q, ha, h => by
    rw [List.all_cons, Bool.and_eq_true] at ha
    obtain ⟨h1, h2⟩ := ha
    unfold strLit at h1
    split at h1
    · refine args_cons (lit_str _ fun v tk hv => ?_) rfl
      obtain ⟨t, rfl⟩ := hv.str
      refine spliced_strs es _ _ h2 fun vs tk' hvs hl => h _ tk' (fun v hv => ?_) (by rw [List.length_cons, List.length_cons, hl])
      rcases List.mem_cons.mp hv with rfl | hv
      · exact ⟨_, t, rfl⟩
      · exact hvs v hv
    · cases h1
end
def rowLit : PySem.Expr → Bool
  | .Tuple [.Constant (.str _) _ _, .Constant (.int _) _ _] _ _ => true
  | _ => false
section
variable {prog : Program} {w : World} {A : Around} {E : Value → Shared → Prop} {env : Env} {h₀ : Heap} {L : Addr} {m : Str → Option Value}
theorem spliced_rows {pos : Pos} : ∀ (elts : List PySem.Expr) (s : Shared) (news : List (Addr × Obj)) (Q : List Value → Shared → Prop), elts.all rowLit = true → Fr h₀ L s.heap m → News h₀ L s.heap news →
    (∀ h' tk rs led, (∀ v ∈ rs, ∃ r x t k u n, v = Value.ref r ∧ (r, tupOf [.str x t, .int k u] n) ∈ led) → rs.length = elts.length → (∀ p ∈ news, p ∈ led) → (∀ p ∈ led, p ∈ news ∨ p.2.cls = .type "tuple") → Fr h₀ L h' m → News h₀ L h' led → Q rs { s with heap := h', toks := tk }) →
    wpAny (model prog w) A (spliced (backTo pos (starEach elts env))) Q E s
  | [], s, news, Q, _, F, N, h => args_nil (h s.heap s.toks [] news (fun _ hv => nomatch hv) rfl (fun _ hp => hp) (fun _ hp => .inl hp) F N)
  | e :: es, s, news, Q, ha, F, N, h => by
    rw [List.all_cons, Bool.and_eq_true] at ha
    obtain ⟨h1, h2⟩ := ha
    unfold rowLit at h1
    split at h1
    · rename_i x ka pa i kb pb k p
      refine args_cons (Tuple_ (spliced_lits _ [.str x, .int i] _ _ rfl fun vs tk hd => ?_)) rfl
      cases hd with
      | cons d1 hd =>
        cases hd with
        | cons d2 hd =>
          cases hd
          obtain ⟨t1, rfl⟩ := d1.str
          obtain ⟨t2, rfl⟩ := d2.int
          refine newTuple_N F N (fun h' F' N' => ?_) (by rw [sizeLine_eq]; exact Nat.le_of_ble_eq_true rfl)
          refine spliced_rows es _ _ _ h2 F' N' fun h'' tk' rs led hr hl hk hc F'' N'' => ?_
          refine h h'' tk' _ led ?_ (by rw [List.length_cons, List.length_cons, hl]) (fun q hq => hk q (.tail _ hq)) (fun q hq => ?_) F'' N''
          · intro v hv
            rcases List.mem_cons.mp hv with rfl | hv
            · exact ⟨_, x, t1, i, t2, 0, rfl, hk _ (.head _)⟩
            · exact hr v hv
          · rcases hc q hq with hq | hq
            · rcases List.mem_cons.mp hq with rfl | hq
              · exact .inr rfl
              · exact .inl hq
            · exact .inr hq
    · cases h1
end
end
-- S_fa
section
local macro_rules | `(tactic| walk_at "none such") => `(tactic| skip)
local macro_rules | `(tactic| walk_at "none such") => `(tactic| skip)
local macro_rules | `(tactic| walk_at "none such") => `(tactic| skip)
section
variable {prog : Program} {w : World} {A A₀ : Around} {base : Heap} {outer : List Env} {env : Env} {h₀ : Heap} {L : Addr} {m : Str → Option Value} {mean : ExcName → Option Value} {mg mb : Str → Option Value} {loose : List Str} {E : Value → Shared → Prop} {s : Shared} {Q : Value → Shared → Prop}
  (B : Below A₀ base outer h₀) (F : Fr h₀ L s.heap m) (X : (kK w.params).In h₀) (T : Top kQ loose mean mg mb h₀) (hA : A.frames = some (env :: outer)) (hf : env.frame = some L) (hke : env.scope.kind = .function) (hH : A.handled = none) (hd : A.depth ≤ 480) (hu : A.units ≤ 4800)
include B F X T hA hf hke hH hd hu
local macro_rules | `(tactic| walk_at "spliced") => `(tactic| ((refine spliced_strs _ _ _ (by decide +kernel) ?_); intro vs' tk' hv' hl'))
theorem c_fatoms {news : List (Addr × Obj)} (N : News h₀ L s.heap news)
    (h : ∀ h' tk D vs, (∀ v ∈ vs, ∃ x t, v = Value.str x t) → vs.length ≤ 40 → (∀ p ∈ news, p.1 < D) → Fr h₀ L h' m → News h₀ L h' ((D, tupOf vs 0) :: news) → Q (.ref D) { s with heap := h', toks := tk }) :
    wpAny (model prog w) A (call (.ref 60) []) Q E s := by
  k_steps
  refine' h _ _ _ _ ?k1 ?k2 ?k3 ?kF ?kN; (case kF => assumption); (case kN => assumption); (case k1 => assumption)
  case k2 => rename List.length _ = List.length _ => hl9; rw [hl9]; exact Nat.le_of_ble_eq_true rfl
  case k3 => assumption
end
end
-- S_ff
section
section
variable {prog : Program} {w : World} {A A₀ : Around} {base : Heap} {outer : List Env} {env : Env} {h₀ : Heap} {L : Addr} {m : Str → Option Value} {mean : ExcName → Option Value} {mg mb : Str → Option Value} {loose : List Str} {E : Value → Shared → Prop} {s : Shared} {Q : Value → Shared → Prop}
  (B : Below A₀ base outer h₀) (F : Fr h₀ L s.heap m) (X : (kK w.params).In h₀) (T : Top kQ loose mean mg mb h₀) (hA : A.frames = some (env :: outer)) (hf : env.frame = some L) (hke : env.scope.kind = .function) (hH : A.handled = none) (hd : A.depth ≤ 480) (hu : A.units ≤ 4800)
include B F X T hA hf hke hH hd hu
local macro_rules | `(tactic| walk_at "spliced") => `(tactic| ((refine spliced_rows _ _ _ _ (by decide +kernel) (by k_asm) (by k_asm) ?_); intro h' tk' rs' led' hr' hl' hk' hc' F' N'; (try k_sweep)))
theorem c_ffuncs {news : List (Addr × Obj)} (N : News h₀ L s.heap news)
    (h : ∀ h' tk D rs led, (∀ v ∈ rs, ∃ r x t k u n, v = Value.ref r ∧ (r, tupOf [.str x t, .int k u] n) ∈ led) → rs.length ≤ 40 → (∀ p ∈ news, p ∈ led) → (∀ p ∈ led, p ∈ news ∨ p.2.cls = .type "tuple") → (∀ p ∈ led, p.1 < D) → Fr h₀ L h' m → News h₀ L h' ((D, tupOf rs 0) :: led) → Q (.ref D) { s with heap := h', toks := tk }) :
    wpAny (model prog w) A (call (.ref 67) []) Q E s := by
  k_steps
  refine' h _ _ _ _ _ ?k1 ?k2 ?k4 ?k5 ?k3 ?kF ?kN; (case kF => assumption); (case kN => assumption); (case k1 => assumption); (case k4 => assumption); (case k5 => assumption)
  case k2 => rename List.length _ = List.length _ => hl9; rw [hl9]; exact Nat.le_of_ble_eq_true rfl
  case k3 => assumption
end
end
-- S_func
section
section
variable {prog : Program} {w : World} {A A₀ : Around} {base : Heap} {outer : List Env} {env : Env} {h₀ : Heap} {L : Addr} {m : Str → Option Value} {mean : ExcName → Option Value} {mg mb : Str → Option Value} {loose : List Str} {E : Value → Shared → Prop} {s : Shared} {Q : Value → Shared → Prop}
  (B : Below A₀ base outer h₀) (F : Fr h₀ L s.heap m) (X : (kK w.params).In h₀) (T : Top kQ loose mean mg mb h₀) (hA : A.frames = some (env :: outer)) (hf : env.frame = some L) (hke : env.scope.kind = .function) (hH : A.handled = none) (hd : A.depth ≤ 470) (hu : A.units ≤ 4700)
include B F X T hA hf hke hH hd hu
variable {kq : Nat → Tok} {sy sd tx ad fn fd : Addr} {vt vf : List Value} {nt nf na : Nat} {oa : Obj} {tl : List (Addr × Obj)}
  (o1 : @LT.lt Nat _ sd sy) (o2 : @LT.lt Nat _ sy tx) (o3 : @LT.lt Nat _ tx ad) (o4 : @LT.lt Nat _ ad fn) (o5 : @LT.lt Nat _ fn fd) (hT : Off [sy, sd, tx, fn, ad] tl) (lo : (ad == sysModules) = false) (hS : SD prog w oa na) (hna : na ≤ 900) (hvt : vt.length ≤ 900) (hvf : vf.length ≤ 900)
  (N : News h₀ L s.heap ((sy, instObj 154 sd) :: (sd, dictOf (yD w kq tx ad fn fd) 4) :: (tx, W.listOf (List.toArray vt) nt) :: (fn, W.listOf (List.toArray vf) nf) :: (ad, oa) :: tl))
include o1 o2 o3 o4 o5 hT lo hS hna hvt hvf N
theorem c_func {D : List (PyData × PyData)} {x : Str} {k : Int} {ta tk0 : Tok} (TT : TupTab (PySem.intKind prog w) PyData.int tl fd D) (hD : DInt D) (hDn : D.length ≤ 900) (hna2 : na ≤ 800) (hvt2 : vt.length ≤ 800)
    (h : ∀ h' tk i ti vt' nt' oa' vf' nf' tl' D', SD prog w oa' (na + 1) → vt'.length ≤ vt.length + 1 → TupTab (PySem.intKind prog w) PyData.int tl' fd D' → DInt D' → D'.length ≤ D.length + 1 → Off [sy, sd, tx, fn, ad] tl' → (∀ p ∈ tl, p.1 ≠ fd → p ∈ tl') → vf'.length ≤ vf.length + 1 → Fr h₀ L h' m → News h₀ L h' ((sy, instObj 154 sd) :: (sd, dictOf (yD w kq tx ad fn fd) 4) :: (tx, W.listOf (List.toArray vt') nt') :: (fn, W.listOf (List.toArray vf') nf') :: (ad, oa') :: tl') → Q (.int i ti) { s with heap := h', toks := tk }) :
    wpAny (model prog w) A (call (.ref 109) [.ref sy, .str x ta, .int k tk0]) Q E s := by
  repeat' (first | (k_unfold; (try dsimp only)) | ((with_reducible show wpAny _ _ (call (Value.ref _) _) _ _ _); first | ((with_reducible show wpAny _ _ (call (Value.ref 102) _) _ _ _); (k_dflt (refine' c_functor ?B ?F ?X ?T ?hA ?hf ?hke ?hH ?hd ?hu ?o1 ?o2 ?o3 ?o4 ?o5 ?hT ?lo ?hS ?hna ?hvt ?hvf ?N ?x0 ?x1 ?x2 ?_; (case N => assumption); (case B => k_asm); (case F => k_asm); (case X => k_asm); (case T => k_asm); (case hA => tb_start); (case hf => tb_start); (case hke => tb_start); (case hH => assumption); (case hd => ktr_room); (case hu => ktr_room); (case o1 => omega); (case o2 => omega); (case o3 => omega); (case o4 => omega); (case o5 => omega); (case hT => assumption); (case lo => assumption); (case hS => assumption); (case hna => omega); (case hvt => omega); (case hvf => omega); (case x0 => assumption); (case x1 => assumption); (case x2 => omega); k_whole); (try dsimp only); intro _ _ _ _ _ _ _ _ _ _ _ _ _ _ _ _; (try k_sweep))) | ((with_reducible show wpAny _ _ (call (Value.ref 88) _) _ _ _); (k_dflt (refine' c_atom ?B ?F ?X ?T ?hA ?hf ?hke ?hH ?hd ?hu ?o1 ?o2 ?o3 ?o4 ?o5 ?hT ?lo ?hS ?hna ?hvt ?hvf ?N ?_; (case N => assumption); (case B => k_asm); (case F => k_asm); (case X => k_asm); (case T => k_asm); (case hA => tb_start); (case hf => tb_start); (case hke => tb_start); (case hH => assumption); (case hd => ktr_room); (case hu => ktr_room); (case o1 => omega); (case o2 => omega); (case o3 => omega); (case o4 => omega); (case o5 => omega); (case hT => assumption); (case lo => assumption); (case hS => assumption); (case hna => omega); (case hvt => omega); (case hvf => omega); k_whole); (try dsimp only); intro _ _ _ _ _ _ _ _ _ _ _; (try k_sweep)))) | walk1 | (dsimp only; walk1) | (leave1; walk_say "STEP leave1"; try dsimp only) | fail "no step")
  refine' h _ _ _ _ _ _ _ _ _ _ _ ?k1 ?k2 ?k3 ?k4 ?k5 ?k6 ?k7 ?k8 ?kF ?kN; (case kF => assumption); (case kN => assumption)
  all_goals assumption
end
end
-- S_syms
section
local macro_rules | `(tactic| walk_at "none such") => `(tactic| skip)
local macro_rules | `(tactic| walk_at "pyIter ref") => `(tactic| (refine Hold.out ?_))
section
variable {prog : Program} {w : World} {A A₀ : Around} {base : Heap} {outer : List Env} {env : Env} {h₀ : Heap} {L : Addr} {m : Str → Option Value} {mean : ExcName → Option Value} {mg mb : Str → Option Value} {loose : List Str} {E : Value → Shared → Prop} {s : Shared} {Q : Value → Shared → Prop}
  (B : Below A₀ base outer h₀) (F : Fr h₀ L s.heap m) (X : (kK w.params).In h₀) (T : Top kQ loose mean mg mb h₀) (hA : A.frames = some (env :: outer)) (hf : env.frame = some L) (hke : env.scope.kind = .function) (hH : A.handled = none) (hd : A.depth ≤ 460) (hu : A.units ≤ 4600)
include B F X T hA hf hke hH hd hu
theorem c_symbols {news : List (Addr × Obj)} (N : News h₀ L s.heap news)
    (h : ∀ h' tk sy, Fr h₀ L h' m → News h₀ L h' news → Q (.ref sy) { s with heap := h', toks := tk }) :
    wpAny (model prog w) A (call (.ref 154) []) Q E s := by
  repeat' (first | (k_unfold; (try dsimp only)) | ((with_reducible show wpAny _ _ (call (Value.ref _) _) _ _ _); first | ((with_reducible show wpAny _ _ (call (Value.ref 67) _) _ _ _); (k_dflt (refine' c_ffuncs ?B ?F ?X ?T ?hA ?hf ?hke ?hH ?hd ?hu ?x0 ?_; (case B => k_asm); (case F => k_asm); (case X => k_asm); (case T => k_asm); (case hA => tb_start); (case hf => tb_start); (case hke => tb_start); (case hH => assumption); (case hd => ktr_room); (case hu => ktr_room); (case x0 => k_asm); k_whole); (try dsimp only); intro _ _ _ _ _ _ _ _ _ _ _ _; (try k_sweep))) | ((with_reducible show wpAny _ _ (call (Value.ref 60) _) _ _ _); (k_dflt (refine' c_fatoms ?B ?F ?X ?T ?hA ?hf ?hke ?hH ?hd ?hu ?x0 ?_; (case B => k_asm); (case F => k_asm); (case X => k_asm); (case T => k_asm); (case hA => tb_start); (case hf => tb_start); (case hke => tb_start); (case hH => assumption); (case hd => ktr_room); (case hu => ktr_room); (case x0 => k_asm); k_whole); (try dsimp only); intro _ _ _ _ _ _ _ _ _; (try k_sweep))) | ((with_reducible show wpAny _ _ (call (Value.ref 109) _) _ _ _); (k_dflt (refine' c_func ?B ?F ?X ?T ?hA ?hf ?hke ?hH ?hd ?hu ?o1 ?o2 ?o3 ?o4 ?o5 ?hT ?lo ?hS ?hna ?hvt ?hvf ?N ?x0 ?x1 ?x2 ?x3 ?x4 ?_; (case N => assumption); (case B => k_asm); (case F => k_asm); (case X => k_asm); (case T => k_asm); (case hA => tb_start); (case hf => tb_start); (case hke => tb_start); (case hH => assumption); (case hd => ktr_room); (case hu => ktr_room); (case o1 => omega); (case o2 => omega); (case o3 => omega); (case o4 => omega); (case o5 => omega); (case hT => assumption); (case lo => assumption); (case hS => assumption); (case hna => omega); (case hvt => omega); (case hvf => omega); (case x0 => assumption); (case x1 => assumption); (case x2 => omega); (case x3 => omega); (case x4 => omega); k_whole); (try dsimp only); intro _ _ _ _ _ _ _ _ _ _ _ _ _ _ _ _ _ _ _ _ _; (try k_sweep))) | ((with_reducible show wpAny _ _ (call (Value.ref 102) _) _ _ _); (k_dflt (refine' c_functor ?B ?F ?X ?T ?hA ?hf ?hke ?hH ?hd ?hu ?o1 ?o2 ?o3 ?o4 ?o5 ?hT ?lo ?hS ?hna ?hvt ?hvf ?N ?x0 ?x1 ?x2 ?_; (case N => assumption); (case B => k_asm); (case F => k_asm); (case X => k_asm); (case T => k_asm); (case hA => tb_start); (case hf => tb_start); (case hke => tb_start); (case hH => assumption); (case hd => ktr_room); (case hu => ktr_room); (case o1 => omega); (case o2 => omega); (case o3 => omega); (case o4 => omega); (case o5 => omega); (case hT => assumption); (case lo => assumption); (case hS => assumption); (case hna => omega); (case hvt => omega); (case hvf => omega); (case x0 => assumption); (case x1 => assumption); (case x2 => omega); k_whole); (try dsimp only); intro _ _ _ _ _ _ _ _ _ _ _ _ _ _ _ _; (try k_sweep))) | ((with_reducible show wpAny _ _ (call (Value.ref 88) _) _ _ _); (k_dflt (refine' c_atom ?B ?F ?X ?T ?hA ?hf ?hke ?hH ?hd ?hu ?o1 ?o2 ?o3 ?o4 ?o5 ?hT ?lo ?hS ?hna ?hvt ?hvf ?N ?_; (case N => assumption); (case B => k_asm); (case F => k_asm); (case X => k_asm); (case T => k_asm); (case hA => tb_start); (case hf => tb_start); (case hke => tb_start); (case hH => assumption); (case hd => ktr_room); (case hu => ktr_room); (case o1 => omega); (case o2 => omega); (case o3 => omega); (case o4 => omega); (case o5 => omega); (case hT => assumption); (case lo => assumption); (case hS => assumption); (case hna => omega); (case hvt => omega); (case hvf => omega); k_whole); (try dsimp only); intro _ _ _ _ _ _ _ _ _ _ _; (try k_sweep)))) | ((with_reducible show wpAny _ _ (subscriptTail _ _ (Value.ref _) (Value.int _ _)) _ _ _); k_dflt (refine' my_tup ?k1 ?k2 ?k3 ?k4 ?k5 ?k6 ?_ ?k7; (case k1 => k_asm); (case k2 => exact .tail _ (.tail _ (.tail _ (.tail _ (.tail _ (.tail _ (.tail _ (by assumption)))))))); (case k3 => decide); (case k4 => decide); (case k5 => rfl); (case k6 => rfl); (case k7 => with_unfolding_all rfl); k_whole)) | walk1 | (dsimp only; walk1) | (leave1; walk_say "STEP leave1"; try dsimp only) | fail "no step")
  refine Hold.mk ?_
  rename_i sy sd h10 F10 N10 lSd lSy g9 L9 h9 FG9 B9 X9 T9 tk91 tx h8 lTx h7 tk90 ad h6 oa loA hsA fsA hiA fiA lAd h5 fn h4 lFn h3 fd h2 od loD hsD fsD hiD fiD lFd h1 h0 tkC D vs hv hl hlt F9 N9
  have q1 := lSy
  have q2 := lTx.1
  have q3 := lAd.1
  have q4 := lFn.1
  have q5 := lFd.1
  k_lt hlt
  obtain ⟨d1, d2, d3, d4, d5, d6, _⟩ := hlt
  have hTn : Off [sy, sd, tx, fn, ad] news := off5_lt lSd q1 (Nat.lt_trans q1 q2) (Nat.lt_trans q1 (Nat.lt_trans q2 (Nat.lt_trans q3 q4))) (Nat.lt_trans q1 (Nat.lt_trans q2 q3))
  have hT1 : Off [sy, sd, tx, fn, ad] ((D, tupOf vs 0) :: (fd, od) :: news) := off5_cons (off5_cons hTn ⟨by k_ne, by k_ne, by k_ne, by k_ne, by k_ne⟩) ⟨by k_ne, by k_ne, by k_ne, by k_ne, by k_ne⟩
  obtain ⟨kq, N8⟩ : ∃ kq, News g9 L9 h0 ((sy, instObj 154 sd) :: (sd, dictOf (yD w kq tx ad fn fd) 4) :: (tx, W.listOf (List.toArray []) 0) :: (fn, W.listOf (List.toArray []) 0) :: (ad, oa) :: (D, tupOf vs 0) :: (fd, od) :: news) := ⟨kqOf _ _ _ _, News.perm7 N9⟩
  clear N9
  refine' tupS (fun _ => _) (fun q : List Value × Nat × Obj => ((sy, instObj 154 sd) :: (sd, dictOf (yD w kq tx ad fn fd) 4) :: (tx, W.listOf (List.toArray q.1) q.2.1) :: (fn, W.listOf (List.toArray []) 0) :: (ad, q.2.2) :: (D, tupOf vs 0) :: (fd, od) :: news)) (fun i q => SD prog w q.2.2 i ∧ q.1.length ≤ i) ([], 0, oa) hH F9 N8 (.tail _ (.tail _ (.tail _ (.tail _ (.tail _ (.head _)))))) (fun _ _ => rfl) rfl (fun _ => .tail _ (.tail _ (.tail _ (.tail _ (.tail _ (.head _)))))) ⟨⟨[], [], hsA, fsA, fun _ hp => (nomatch hp), Nat.le_refl _⟩, Nat.le_refl _⟩ ?turn ?done
  case turn =>
    rintro i ⟨vtB, ntB, oB⟩ v h' tk' I it hic hi' ⟨hSB, hlB⟩ ho hI F' N'
    k_lt hI
    obtain ⟨x, tx0, rfl⟩ := hv v (List.mem_of_getElem? hi')
    have hlt := (List.getElem?_eq_some_iff.mp hi').1
    dsimp only [envOf] at hSB hlB ho F' N'
    have N' := News.mv5 N'
    have hT' : Off [sy, sd, tx, fn, ad] ((I, it) :: (D, tupOf vs 0) :: (fd, od) :: news) := off5_cons hT1 ⟨by k_ne, by k_ne, by k_ne, by k_ne, by k_ne⟩
    have hvf0 : (([] : List Value).length) ≤ 900 := Nat.zero_le _
    clear N8 F9
    repeat' (first | (k_unfold; (try dsimp only)) | ((with_reducible show wpAny _ _ (call (Value.ref _) _) _ _ _); first | ((with_reducible show wpAny _ _ (call (Value.ref 67) _) _ _ _); (k_dflt (refine' c_ffuncs ?B ?F ?X ?T ?hA ?hf ?hke ?hH ?hd ?hu ?x0 ?_; (case B => k_asm); (case F => k_asm); (case X => k_asm); (case T => k_asm); (case hA => tb_start); (case hf => tb_start); (case hke => tb_start); (case hH => assumption); (case hd => ktr_room); (case hu => ktr_room); (case x0 => k_asm); k_whole); (try dsimp only); intro _ _ _ _ _ _ _ _ _ _ _ _; (try k_sweep))) | ((with_reducible show wpAny _ _ (call (Value.ref 60) _) _ _ _); (k_dflt (refine' c_fatoms ?B ?F ?X ?T ?hA ?hf ?hke ?hH ?hd ?hu ?x0 ?_; (case B => k_asm); (case F => k_asm); (case X => k_asm); (case T => k_asm); (case hA => tb_start); (case hf => tb_start); (case hke => tb_start); (case hH => assumption); (case hd => ktr_room); (case hu => ktr_room); (case x0 => k_asm); k_whole); (try dsimp only); intro _ _ _ _ _ _ _ _ _; (try k_sweep))) | ((with_reducible show wpAny _ _ (call (Value.ref 109) _) _ _ _); (k_dflt (refine' c_func ?B ?F ?X ?T ?hA ?hf ?hke ?hH ?hd ?hu ?o1 ?o2 ?o3 ?o4 ?o5 ?hT ?lo ?hS ?hna ?hvt ?hvf ?N ?x0 ?x1 ?x2 ?x3 ?x4 ?_; (case N => assumption); (case B => k_asm); (case F => k_asm); (case X => k_asm); (case T => k_asm); (case hA => tb_start); (case hf => tb_start); (case hke => tb_start); (case hH => assumption); (case hd => ktr_room); (case hu => ktr_room); (case o1 => omega); (case o2 => omega); (case o3 => omega); (case o4 => omega); (case o5 => omega); (case hT => assumption); (case lo => assumption); (case hS => assumption); (case hna => omega); (case hvt => omega); (case hvf => omega); (case x0 => assumption); (case x1 => assumption); (case x2 => omega); (case x3 => omega); (case x4 => omega); k_whole); (try dsimp only); intro _ _ _ _ _ _ _ _ _ _ _ _ _ _ _ _ _ _ _ _ _; (try k_sweep))) | ((with_reducible show wpAny _ _ (call (Value.ref 102) _) _ _ _); (k_dflt (refine' c_functor ?B ?F ?X ?T ?hA ?hf ?hke ?hH ?hd ?hu ?o1 ?o2 ?o3 ?o4 ?o5 ?hT ?lo ?hS ?hna ?hvt ?hvf ?N ?x0 ?x1 ?x2 ?_; (case N => assumption); (case B => k_asm); (case F => k_asm); (case X => k_asm); (case T => k_asm); (case hA => tb_start); (case hf => tb_start); (case hke => tb_start); (case hH => assumption); (case hd => ktr_room); (case hu => ktr_room); (case o1 => omega); (case o2 => omega); (case o3 => omega); (case o4 => omega); (case o5 => omega); (case hT => assumption); (case lo => assumption); (case hS => assumption); (case hna => omega); (case hvt => omega); (case hvf => omega); (case x0 => assumption); (case x1 => assumption); (case x2 => omega); k_whole); (try dsimp only); intro _ _ _ _ _ _ _ _ _ _ _ _ _ _ _ _; (try k_sweep))) | ((with_reducible show wpAny _ _ (call (Value.ref 88) _) _ _ _); (k_dflt (refine' c_atom ?B ?F ?X ?T ?hA ?hf ?hke ?hH ?hd ?hu ?o1 ?o2 ?o3 ?o4 ?o5 ?hT ?lo ?hS ?hna ?hvt ?hvf ?N ?_; (case N => assumption); (case B => k_asm); (case F => k_asm); (case X => k_asm); (case T => k_asm); (case hA => tb_start); (case hf => tb_start); (case hke => tb_start); (case hH => assumption); (case hd => ktr_room); (case hu => ktr_room); (case o1 => omega); (case o2 => omega); (case o3 => omega); (case o4 => omega); (case o5 => omega); (case hT => assumption); (case lo => assumption); (case hS => assumption); (case hna => omega); (case hvt => omega); (case hvf => omega); k_whole); (try dsimp only); intro _ _ _ _ _ _ _ _ _ _ _; (try k_sweep)))) | ((with_reducible show wpAny _ _ (subscriptTail _ _ (Value.ref _) (Value.int _ _)) _ _ _); k_dflt (refine' my_tup ?k1 ?k2 ?k3 ?k4 ?k5 ?k6 ?_ ?k7; (case k1 => k_asm); (case k2 => exact .tail _ (.tail _ (.tail _ (.tail _ (.tail _ (.tail _ (.tail _ (by assumption)))))))); (case k3 => decide); (case k4 => decide); (case k5 => rfl); (case k6 => rfl); (case k7 => with_unfolding_all rfl); k_whole)) | walk1 | (dsimp only; walk1) | (leave1; walk_say "STEP leave1"; try dsimp only) | fail "no step")
    rename_i h3 tk3 i3 ti3 vt3 nt3 oa3 hS3 hl3 F3 N3
    (try dsimp only [LpPost])
    exact LpEnd.intro (vt3, nt3, oa3) F3 (fun y hy => if_neg hy) (News.vm5 N3) (off_same ho) ⟨hS3, by dsimp only; omega⟩
  case done =>
    rintro ⟨vtB, ntB, oB⟩ u h' tk' ⟨hSB, hlB⟩ F' N'
    dsimp only [envOf] at hSB hlB F' N'
    clear N8 F9
    repeat' (first | (k_unfold; (try dsimp only)) | ((with_reducible show wpAny _ _ (call (Value.ref _) _) _ _ _); first | ((with_reducible show wpAny _ _ (call (Value.ref 67) _) _ _ _); (k_dflt (refine' c_ffuncs ?B ?F ?X ?T ?hA ?hf ?hke ?hH ?hd ?hu ?x0 ?_; (case B => k_asm); (case F => k_asm); (case X => k_asm); (case T => k_asm); (case hA => tb_start); (case hf => tb_start); (case hke => tb_start); (case hH => assumption); (case hd => ktr_room); (case hu => ktr_room); (case x0 => k_asm); k_whole); (try dsimp only); intro _ _ _ _ _ _ _ _ _ _ _ _; (try k_sweep))) | ((with_reducible show wpAny _ _ (call (Value.ref 60) _) _ _ _); (k_dflt (refine' c_fatoms ?B ?F ?X ?T ?hA ?hf ?hke ?hH ?hd ?hu ?x0 ?_; (case B => k_asm); (case F => k_asm); (case X => k_asm); (case T => k_asm); (case hA => tb_start); (case hf => tb_start); (case hke => tb_start); (case hH => assumption); (case hd => ktr_room); (case hu => ktr_room); (case x0 => k_asm); k_whole); (try dsimp only); intro _ _ _ _ _ _ _ _ _; (try k_sweep))) | ((with_reducible show wpAny _ _ (call (Value.ref 109) _) _ _ _); (k_dflt (refine' c_func ?B ?F ?X ?T ?hA ?hf ?hke ?hH ?hd ?hu ?o1 ?o2 ?o3 ?o4 ?o5 ?hT ?lo ?hS ?hna ?hvt ?hvf ?N ?x0 ?x1 ?x2 ?x3 ?x4 ?_; (case N => assumption); (case B => k_asm); (case F => k_asm); (case X => k_asm); (case T => k_asm); (case hA => tb_start); (case hf => tb_start); (case hke => tb_start); (case hH => assumption); (case hd => ktr_room); (case hu => ktr_room); (case o1 => omega); (case o2 => omega); (case o3 => omega); (case o4 => omega); (case o5 => omega); (case hT => assumption); (case lo => assumption); (case hS => assumption); (case hna => omega); (case hvt => omega); (case hvf => omega); (case x0 => assumption); (case x1 => assumption); (case x2 => omega); (case x3 => omega); (case x4 => omega); k_whole); (try dsimp only); intro _ _ _ _ _ _ _ _ _ _ _ _ _ _ _ _ _ _ _ _ _; (try k_sweep))) | ((with_reducible show wpAny _ _ (call (Value.ref 102) _) _ _ _); (k_dflt (refine' c_functor ?B ?F ?X ?T ?hA ?hf ?hke ?hH ?hd ?hu ?o1 ?o2 ?o3 ?o4 ?o5 ?hT ?lo ?hS ?hna ?hvt ?hvf ?N ?x0 ?x1 ?x2 ?_; (case N => assumption); (case B => k_asm); (case F => k_asm); (case X => k_asm); (case T => k_asm); (case hA => tb_start); (case hf => tb_start); (case hke => tb_start); (case hH => assumption); (case hd => ktr_room); (case hu => ktr_room); (case o1 => omega); (case o2 => omega); (case o3 => omega); (case o4 => omega); (case o5 => omega); (case hT => assumption); (case lo => assumption); (case hS => assumption); (case hna => omega); (case hvt => omega); (case hvf => omega); (case x0 => assumption); (case x1 => assumption); (case x2 => omega); k_whole); (try dsimp only); intro _ _ _ _ _ _ _ _ _ _ _ _ _ _ _ _; (try k_sweep))) | ((with_reducible show wpAny _ _ (call (Value.ref 88) _) _ _ _); (k_dflt (refine' c_atom ?B ?F ?X ?T ?hA ?hf ?hke ?hH ?hd ?hu ?o1 ?o2 ?o3 ?o4 ?o5 ?hT ?lo ?hS ?hna ?hvt ?hvf ?N ?_; (case N => assumption); (case B => k_asm); (case F => k_asm); (case X => k_asm); (case T => k_asm); (case hA => tb_start); (case hf => tb_start); (case hke => tb_start); (case hH => assumption); (case hd => ktr_room); (case hu => ktr_room); (case o1 => omega); (case o2 => omega); (case o3 => omega); (case o4 => omega); (case o5 => omega); (case hT => assumption); (case lo => assumption); (case hS => assumption); (case hna => omega); (case hvt => omega); (case hvf => omega); k_whole); (try dsimp only); intro _ _ _ _ _ _ _ _ _ _ _; (try k_sweep)))) | ((with_reducible show wpAny _ _ (subscriptTail _ _ (Value.ref _) (Value.int _ _)) _ _ _); k_dflt (refine' my_tup ?k1 ?k2 ?k3 ?k4 ?k5 ?k6 ?_ ?k7; (case k1 => k_asm); (case k2 => exact .tail _ (.tail _ (.tail _ (.tail _ (.tail _ (.tail _ (.tail _ (by assumption)))))))); (case k3 => decide); (case k4 => decide); (case k5 => rfl); (case k6 => rfl); (case k7 => with_unfolding_all rfl); k_whole)) | walk1 | (dsimp only; walk1) | (leave1; walk_say "STEP leave1"; try dsimp only) | fail "no step")
    refine Hold.mk ?_
    rename_i lF3 h3 tk3 D2 rs led hr hlr hs hc hlt2 F3 N3
    have Nled : News g9 L9 h3 led := News.tail9 N3
    have m1 := hs _ (.head _)
    have m2 := hs _ (.tail _ (.head _))
    have m3 := hs _ (.tail _ (.tail _ (.head _)))
    have m4 := hs _ (.tail _ (.tail _ (.tail _ (.head _))))
    have m5 := hs _ (.tail _ (.tail _ (.tail _ (.tail _ (.head _)))))
    have mfd := hs (fd, od) (.tail _ (.tail _ (.tail _ (.tail _ (.tail _ (.tail _ (.head _)))))))
    have nfd : fd ∉ [sy, sd, tx, fn, ad] := by
      simp only [List.mem_cons, List.not_mem_nil, or_false, not_or]
      exact ⟨Nat.ne_of_gt (show @LT.lt Nat _ sy fd by omega), Nat.ne_of_gt (show @LT.lt Nat _ sd fd by omega), Nat.ne_of_gt (show @LT.lt Nat _ tx fd by omega), Nat.ne_of_gt (show @LT.lt Nat _ fn fd by omega), Nat.ne_of_gt (show @LT.lt Nat _ ad fd by omega)⟩
    have ncls : ∀ a ∈ [sy, sd, tx, fn, ad], ∃ o, (a, o) ∈ led ∧ o.cls ≠ .type "tuple" := by
      intro a ha
      simp only [List.mem_cons, List.not_mem_nil, or_false] at ha
      rcases ha with rfl | rfl | rfl | rfl | rfl
      · exact ⟨_, m1, fun e => by cases e⟩
      · exact ⟨_, m2, fun e => absurd (Value.type.inj e) (by decide)⟩
      · exact ⟨_, m3, fun e => absurd (Value.type.inj e) (by decide)⟩
      · exact ⟨_, m4, fun e => absurd (Value.type.inj e) (by decide)⟩
      · exact ⟨_, m5, fun e => absurd (Value.type.inj (hSB.cls.symm.trans e)) (by decide)⟩
    obtain ⟨tl2, htl2⟩ : ∃ tl2, tl2 = led.filter fun p => decide (p.1 ∉ [sy, sd, tx, fn, ad]) := ⟨_, rfl⟩
    have hfd2 : (fd, od) ∈ tl2 := by rw [htl2]; exact List.mem_filter.mpr ⟨mfd, decide_eq_true nfd⟩
    have hO2 : Off [sy, sd, tx, fn, ad] tl2 := by rw [htl2]; exact off_filter
    have T2 : TupTab (PySem.intKind prog w) PyData.int tl2 fd [] := TupTab.ofEmpty hfd2 loD hiD
    have hr2 : ∀ v ∈ rs, ∃ r x t k u n, v = Value.ref r ∧ (r, tupOf [.str x t, .int k u] n) ∈ tl2 ∧ r ≠ fd := by
      intro v hv
      obtain ⟨r, x, t, k, u, n, e, hm⟩ := hr v hv
      refine ⟨r, x, t, k, u, n, e, ?_, ?_⟩
      · rw [htl2]
        refine List.mem_filter.mpr ⟨hm, decide_eq_true fun hin => ?_⟩
        obtain ⟨o2, ho2, hc2⟩ := ncls _ hin
        have e1 := (Nled _ hm).1
        have e2 := (Nled _ ho2).1
        rw [e1] at e2
        have e3 : tupOf [.str x t, .int k u] n = o2 := Option.some.inj e2
        exact hc2 (congrArg Obj.cls e3).symm
      · intro e0
        subst e0
        have e1 := (Nled _ hm).1
        have e2 := (Nled _ mfd).1
        rw [e1] at e2
        have e3 : tupOf [.str x t, .int k u] n = od := Option.some.inj e2
        obtain ⟨_, _, x0, _⟩ := hiD
        exact absurd (Value.type.inj ((congrArg Obj.cls e3).trans x0.1)) (by decide)
    have hnews : ∀ p ∈ news, p ∈ tl2 ∧ p.1 ≠ fd := by
      intro p hp
      refine ⟨?_, Nat.ne_of_lt (Nat.lt_trans (lSd p hp) (show @LT.lt Nat _ sd fd by omega))⟩
      rw [htl2]
      exact List.mem_filter.mpr ⟨hs p (.tail _ (.tail _ (.tail _ (.tail _ (.tail _ (.tail _ (.tail _ hp))))))), decide_eq_true fun hin => hTn p hp _ hin rfl⟩
    have N4 : News g9 L9 h3 ((sy, instObj 154 sd) :: (sd, dictOf (yD w kq tx ad fn fd) 4) :: (tx, W.listOf (List.toArray vtB) ntB) :: (fn, W.listOf (List.toArray []) 0) :: (ad, oB) :: (D2, tupOf rs 0) :: tl2) := by
      intro p hp
      rcases List.mem_cons.mp hp with rfl | hp
      · exact Nled _ m1
      rcases List.mem_cons.mp hp with rfl | hp
      · exact Nled _ m2
      rcases List.mem_cons.mp hp with rfl | hp
      · exact Nled _ m3
      rcases List.mem_cons.mp hp with rfl | hp
      · exact Nled _ m4
      rcases List.mem_cons.mp hp with rfl | hp
      · exact Nled _ m5
      rcases List.mem_cons.mp hp with rfl | hp
      · exact N3 _ (.head _)
      · rw [htl2] at hp; exact Nled _ (List.mem_filter.mp hp).1
    have hD2 : @LT.lt Nat _ sy D2 ∧ @LT.lt Nat _ sd D2 ∧ @LT.lt Nat _ tx D2 ∧ @LT.lt Nat _ fn D2 ∧ @LT.lt Nat _ ad D2 := ⟨hlt2 _ m1, hlt2 _ m2, hlt2 _ m3, hlt2 _ m4, hlt2 _ m5⟩
    refine' tupS (fun _ => _) (fun q : List Value × Nat × Obj × List Value × Nat × List (Addr × Obj) × List (PyData × PyData) => ((sy, instObj 154 sd) :: (sd, dictOf (yD w kq tx ad fn fd) 4) :: (tx, W.listOf (List.toArray q.1) q.2.1) :: (fn, W.listOf (List.toArray q.2.2.2.1) q.2.2.2.2.1) :: (ad, q.2.2.1) :: (D2, tupOf rs 0) :: q.2.2.2.2.2.1)) (fun i q => SD prog w q.2.2.1 (40 + i) ∧ q.1.length ≤ 40 + i ∧ q.2.2.2.1.length ≤ i ∧ TupTab (PySem.intKind prog w) PyData.int q.2.2.2.2.2.1 fd q.2.2.2.2.2.2 ∧ DInt q.2.2.2.2.2.2 ∧ q.2.2.2.2.2.2.length ≤ i ∧ Off [sy, sd, tx, fn, ad] q.2.2.2.2.2.1 ∧ (∀ p ∈ tl2, p.1 ≠ fd → p ∈ q.2.2.2.2.2.1)) (vtB, ntB, oB, [], 0, tl2, []) hH F3 N4 (.tail _ (.tail _ (.tail _ (.tail _ (.tail _ (.head _)))))) (fun _ _ => rfl) rfl (fun _ => .tail _ (.tail _ (.tail _ (.tail _ (.tail _ (.head _)))))) ⟨hSB.mono (by omega), by dsimp only; omega, Nat.le_refl _, T2, fun _ hp => (nomatch hp), Nat.le_refl _, hO2, fun p hp _ => hp⟩ ?turn2 ?done2
    case turn2 =>
      rintro i ⟨vtC, ntC, oC, vfC, nfC, tlC, DC⟩ v h' tk' I it hic hi' ⟨hSC, hl1C, hl2C, hTC, hDC, hlDC, hOC, hkC⟩ ho hI F' N'
      obtain ⟨r, x, t, k, u, n, rfl, hrm, hrf⟩ := hr2 v (List.mem_of_getElem? hi')
      have hlt := (List.getElem?_eq_some_iff.mp hi').1
      dsimp only [envOf] at hSC hl1C hl2C hTC hDC hlDC hOC hkC ho F' N'
      have hrC := hkC _ hrm hrf
      have hIf : ∀ p ∈ tlC, p.1 ≠ I := fun p hp => ho p (.tail _ (.tail _ (.tail _ (.tail _ (.tail _ (.tail _ hp))))))
      have N' := News.mv5 N'
      k_lt hI
      have hT' : Off [sy, sd, tx, fn, ad] ((I, it) :: (D2, tupOf rs 0) :: tlC) := off5_cons (off5_cons hOC ⟨by k_ne, by k_ne, by k_ne, by k_ne, by k_ne⟩) ⟨by k_ne, by k_ne, by k_ne, by k_ne, by k_ne⟩
      have TT' : TupTab (PySem.intKind prog w) PyData.int ((I, it) :: (D2, tupOf rs 0) :: tlC) fd DC := TupTab.mono hTC fun p hp => .tail _ (.tail _ hp)
      clear N3 N4
      repeat' (first | (k_unfold; (try dsimp only)) | ((with_reducible show wpAny _ _ (call (Value.ref _) _) _ _ _); first | ((with_reducible show wpAny _ _ (call (Value.ref 67) _) _ _ _); (k_dflt (refine' c_ffuncs ?B ?F ?X ?T ?hA ?hf ?hke ?hH ?hd ?hu ?x0 ?_; (case B => k_asm); (case F => k_asm); (case X => k_asm); (case T => k_asm); (case hA => tb_start); (case hf => tb_start); (case hke => tb_start); (case hH => assumption); (case hd => ktr_room); (case hu => ktr_room); (case x0 => k_asm); k_whole); (try dsimp only); intro _ _ _ _ _ _ _ _ _ _ _ _; (try k_sweep))) | ((with_reducible show wpAny _ _ (call (Value.ref 60) _) _ _ _); (k_dflt (refine' c_fatoms ?B ?F ?X ?T ?hA ?hf ?hke ?hH ?hd ?hu ?x0 ?_; (case B => k_asm); (case F => k_asm); (case X => k_asm); (case T => k_asm); (case hA => tb_start); (case hf => tb_start); (case hke => tb_start); (case hH => assumption); (case hd => ktr_room); (case hu => ktr_room); (case x0 => k_asm); k_whole); (try dsimp only); intro _ _ _ _ _ _ _ _ _; (try k_sweep))) | ((with_reducible show wpAny _ _ (call (Value.ref 109) _) _ _ _); (k_dflt (refine' c_func ?B ?F ?X ?T ?hA ?hf ?hke ?hH ?hd ?hu ?o1 ?o2 ?o3 ?o4 ?o5 ?hT ?lo ?hS ?hna ?hvt ?hvf ?N ?x0 ?x1 ?x2 ?x3 ?x4 ?_; (case N => assumption); (case B => k_asm); (case F => k_asm); (case X => k_asm); (case T => k_asm); (case hA => tb_start); (case hf => tb_start); (case hke => tb_start); (case hH => assumption); (case hd => ktr_room); (case hu => ktr_room); (case o1 => omega); (case o2 => omega); (case o3 => omega); (case o4 => omega); (case o5 => omega); (case hT => assumption); (case lo => assumption); (case hS => assumption); (case hna => omega); (case hvt => omega); (case hvf => omega); (case x0 => assumption); (case x1 => assumption); (case x2 => omega); (case x3 => omega); (case x4 => omega); k_whole); (try dsimp only); intro _ _ _ _ _ _ _ _ _ _ _ _ _ _ _ _ _ _ _ _ _; (try k_sweep))) | ((with_reducible show wpAny _ _ (call (Value.ref 102) _) _ _ _); (k_dflt (refine' c_functor ?B ?F ?X ?T ?hA ?hf ?hke ?hH ?hd ?hu ?o1 ?o2 ?o3 ?o4 ?o5 ?hT ?lo ?hS ?hna ?hvt ?hvf ?N ?x0 ?x1 ?x2 ?_; (case N => assumption); (case B => k_asm); (case F => k_asm); (case X => k_asm); (case T => k_asm); (case hA => tb_start); (case hf => tb_start); (case hke => tb_start); (case hH => assumption); (case hd => ktr_room); (case hu => ktr_room); (case o1 => omega); (case o2 => omega); (case o3 => omega); (case o4 => omega); (case o5 => omega); (case hT => assumption); (case lo => assumption); (case hS => assumption); (case hna => omega); (case hvt => omega); (case hvf => omega); (case x0 => assumption); (case x1 => assumption); (case x2 => omega); k_whole); (try dsimp only); intro _ _ _ _ _ _ _ _ _ _ _ _ _ _ _ _; (try k_sweep))) | ((with_reducible show wpAny _ _ (call (Value.ref 88) _) _ _ _); (k_dflt (refine' c_atom ?B ?F ?X ?T ?hA ?hf ?hke ?hH ?hd ?hu ?o1 ?o2 ?o3 ?o4 ?o5 ?hT ?lo ?hS ?hna ?hvt ?hvf ?N ?_; (case N => assumption); (case B => k_asm); (case F => k_asm); (case X => k_asm); (case T => k_asm); (case hA => tb_start); (case hf => tb_start); (case hke => tb_start); (case hH => assumption); (case hd => ktr_room); (case hu => ktr_room); (case o1 => omega); (case o2 => omega); (case o3 => omega); (case o4 => omega); (case o5 => omega); (case hT => assumption); (case lo => assumption); (case hS => assumption); (case hna => omega); (case hvt => omega); (case hvf => omega); k_whole); (try dsimp only); intro _ _ _ _ _ _ _ _ _ _ _; (try k_sweep)))) | ((with_reducible show wpAny _ _ (subscriptTail _ _ (Value.ref _) (Value.int _ _)) _ _ _); k_dflt (refine' my_tup ?k1 ?k2 ?k3 ?k4 ?k5 ?k6 ?_ ?k7; (case k1 => k_asm); (case k2 => exact .tail _ (.tail _ (.tail _ (.tail _ (.tail _ (.tail _ (.tail _ (by assumption)))))))); (case k3 => decide); (case k4 => decide); (case k5 => rfl); (case k6 => rfl); (case k7 => with_unfolding_all rfl); k_whole)) | walk1 | (dsimp only; walk1) | (leave1; walk_say "STEP leave1"; try dsimp only) | fail "no step")
      rename_i h6' tk6 i6 ti6 vt6 nt6 oa6 vf6 nf6 tl6 D6 hS6 hl61 TT6 hD6 hl62 hT6 hk6 hl63 F6 N6
      (try dsimp only [LpPost])
      have hfdI : fd ≠ I := by
        obtain ⟨_, o, _, _, _, hm, _⟩ := hTC
        exact hIf _ hm
      have mI := hk6 (I, it) (.head _) (Ne.symm hfdI)
      have mD := hk6 (D2, tupOf rs 0) (.tail _ (.head _)) (Nat.ne_of_gt (hlt2 _ mfd))
      have hnI : ∀ {a : Addr}, a ≠ I → a ∉ [I] := fun h hm => h (List.mem_singleton.mp hm)
      have N7 : News g9 L9 h6' tl6 := fun p hp => N6 p (.tail _ (.tail _ (.tail _ (.tail _ (.tail _ hp)))))
      obtain ⟨e1, e2, e3, e4, e5, e6, _⟩ := hI
      refine LpEnd.intro (vt6, nt6, oa6, vf6, nf6, tl6.filter (fun p => decide (p.1 ∉ [I])), D6) F6 (fun y hy => if_neg hy) ?_ ?_ ⟨hS6, by dsimp only; omega, by dsimp only; omega, TupTab.filter N7 TT6 (fun a ha => ⟨it, (List.mem_singleton.mp ha).symm ▸ mI, fun e => absurd (Value.type.inj (hic.symm.trans e)) (by decide)⟩) (hnI hfdI), hD6, by dsimp only; omega, fun p hp => hT6 p (List.mem_filter.mp hp).1, fun p hp hne => List.mem_filter.mpr ⟨hk6 p (.tail _ (.tail _ (hkC p hp hne))) hne, decide_eq_true (hnI (hIf p (hkC p hp hne)))⟩⟩
      · intro p hp
        rcases List.mem_cons.mp hp with rfl | hp
        · exact N7 _ mI
        rcases List.mem_cons.mp hp with rfl | hp
        · exact N6 _ (.head _)
        rcases List.mem_cons.mp hp with rfl | hp
        · exact N6 _ (.tail _ (.head _))
        rcases List.mem_cons.mp hp with rfl | hp
        · exact N6 _ (.tail _ (.tail _ (.head _)))
        rcases List.mem_cons.mp hp with rfl | hp
        · exact N6 _ (.tail _ (.tail _ (.tail _ (.head _))))
        rcases List.mem_cons.mp hp with rfl | hp
        · exact N6 _ (.tail _ (.tail _ (.tail _ (.tail _ (.head _)))))
        rcases List.mem_cons.mp hp with rfl | hp
        · exact N7 _ mD
        · exact N7 _ (List.mem_filter.mp hp).1
      · intro p hp
        rcases List.mem_cons.mp hp with rfl | hp
        · exact Nat.ne_of_lt e1
        rcases List.mem_cons.mp hp with rfl | hp
        · exact Nat.ne_of_lt e2
        rcases List.mem_cons.mp hp with rfl | hp
        · exact Nat.ne_of_lt e3
        rcases List.mem_cons.mp hp with rfl | hp
        · exact Nat.ne_of_lt e4
        rcases List.mem_cons.mp hp with rfl | hp
        · exact Nat.ne_of_lt e5
        rcases List.mem_cons.mp hp with rfl | hp
        · exact Nat.ne_of_lt e6
        · intro e
          exact (of_decide_eq_true (List.mem_filter.mp hp).2) (List.mem_singleton.mpr e)
    case done2 =>
      rintro ⟨vtC, ntC, oC, vfC, nfC, tlC, DC⟩ u h' tk' ⟨hSC, hl1C, hl2C, hTC, hDC, hlDC, hOC, hkC⟩ F' N'
      dsimp only [envOf] at hSC hl1C hl2C hTC hDC hlDC hOC hkC F' N'
      clear N3 N4
      repeat' (first | (k_unfold; (try dsimp only)) | ((with_reducible show wpAny _ _ (call (Value.ref _) _) _ _ _); first | ((with_reducible show wpAny _ _ (call (Value.ref 67) _) _ _ _); (k_dflt (refine' c_ffuncs ?B ?F ?X ?T ?hA ?hf ?hke ?hH ?hd ?hu ?x0 ?_; (case B => k_asm); (case F => k_asm); (case X => k_asm); (case T => k_asm); (case hA => tb_start); (case hf => tb_start); (case hke => tb_start); (case hH => assumption); (case hd => ktr_room); (case hu => ktr_room); (case x0 => k_asm); k_whole); (try dsimp only); intro _ _ _ _ _ _ _ _ _ _ _ _; (try k_sweep))) | ((with_reducible show wpAny _ _ (call (Value.ref 60) _) _ _ _); (k_dflt (refine' c_fatoms ?B ?F ?X ?T ?hA ?hf ?hke ?hH ?hd ?hu ?x0 ?_; (case B => k_asm); (case F => k_asm); (case X => k_asm); (case T => k_asm); (case hA => tb_start); (case hf => tb_start); (case hke => tb_start); (case hH => assumption); (case hd => ktr_room); (case hu => ktr_room); (case x0 => k_asm); k_whole); (try dsimp only); intro _ _ _ _ _ _ _ _ _; (try k_sweep))) | ((with_reducible show wpAny _ _ (call (Value.ref 109) _) _ _ _); (k_dflt (refine' c_func ?B ?F ?X ?T ?hA ?hf ?hke ?hH ?hd ?hu ?o1 ?o2 ?o3 ?o4 ?o5 ?hT ?lo ?hS ?hna ?hvt ?hvf ?N ?x0 ?x1 ?x2 ?x3 ?x4 ?_; (case N => assumption); (case B => k_asm); (case F => k_asm); (case X => k_asm); (case T => k_asm); (case hA => tb_start); (case hf => tb_start); (case hke => tb_start); (case hH => assumption); (case hd => ktr_room); (case hu => ktr_room); (case o1 => omega); (case o2 => omega); (case o3 => omega); (case o4 => omega); (case o5 => omega); (case hT => assumption); (case lo => assumption); (case hS => assumption); (case hna => omega); (case hvt => omega); (case hvf => omega); (case x0 => assumption); (case x1 => assumption); (case x2 => omega); (case x3 => omega); (case x4 => omega); k_whole); (try dsimp only); intro _ _ _ _ _ _ _ _ _ _ _ _ _ _ _ _ _ _ _ _ _; (try k_sweep))) | ((with_reducible show wpAny _ _ (call (Value.ref 102) _) _ _ _); (k_dflt (refine' c_functor ?B ?F ?X ?T ?hA ?hf ?hke ?hH ?hd ?hu ?o1 ?o2 ?o3 ?o4 ?o5 ?hT ?lo ?hS ?hna ?hvt ?hvf ?N ?x0 ?x1 ?x2 ?_; (case N => assumption); (case B => k_asm); (case F => k_asm); (case X => k_asm); (case T => k_asm); (case hA => tb_start); (case hf => tb_start); (case hke => tb_start); (case hH => assumption); (case hd => ktr_room); (case hu => ktr_room); (case o1 => omega); (case o2 => omega); (case o3 => omega); (case o4 => omega); (case o5 => omega); (case hT => assumption); (case lo => assumption); (case hS => assumption); (case hna => omega); (case hvt => omega); (case hvf => omega); (case x0 => assumption); (case x1 => assumption); (case x2 => omega); k_whole); (try dsimp only); intro _ _ _ _ _ _ _ _ _ _ _ _ _ _ _ _; (try k_sweep))) | ((with_reducible show wpAny _ _ (call (Value.ref 88) _) _ _ _); (k_dflt (refine' c_atom ?B ?F ?X ?T ?hA ?hf ?hke ?hH ?hd ?hu ?o1 ?o2 ?o3 ?o4 ?o5 ?hT ?lo ?hS ?hna ?hvt ?hvf ?N ?_; (case N => assumption); (case B => k_asm); (case F => k_asm); (case X => k_asm); (case T => k_asm); (case hA => tb_start); (case hf => tb_start); (case hke => tb_start); (case hH => assumption); (case hd => ktr_room); (case hu => ktr_room); (case o1 => omega); (case o2 => omega); (case o3 => omega); (case o4 => omega); (case o5 => omega); (case hT => assumption); (case lo => assumption); (case hS => assumption); (case hna => omega); (case hvt => omega); (case hvf => omega); k_whole); (try dsimp only); intro _ _ _ _ _ _ _ _ _ _ _; (try k_sweep)))) | ((with_reducible show wpAny _ _ (subscriptTail _ _ (Value.ref _) (Value.int _ _)) _ _ _); k_dflt (refine' my_tup ?k1 ?k2 ?k3 ?k4 ?k5 ?k6 ?_ ?k7; (case k1 => k_asm); (case k2 => exact .tail _ (.tail _ (.tail _ (.tail _ (.tail _ (.tail _ (.tail _ (by assumption)))))))); (case k3 => decide); (case k4 => decide); (case k5 => rfl); (case k6 => rfl); (case k7 => with_unfolding_all rfl); k_whole)) | walk1 | (dsimp only; walk1) | (leave1; walk_say "STEP leave1"; try dsimp only) | fail "no step")
      rename News _ _ _ _ => N7
      refine' h _ _ _ ?kF ?kN; (case kF => assumption)
      case kN => exact fun p hp => N7 p (.tail _ (.tail _ (.tail _ (.tail _ (.tail _ (.tail _ (hkC p (hnews p hp).1 (hnews p hp).2)))))))
end
end
-- L_defs
section

/-- the values of a chain's list object: each a pair (spot, fills) -/
inductive ChainVals (tl : List (Addr × Obj)) : List Value → List (Int × List Value) → Prop
  | nil : ChainVals tl [] []
  | cons {ta fa : Addr} {s : Int} {t : Tok} {f : List Value} {n k : Nat} {vs : List Value} {ch : List (Int × List Value)} : (ta, tupOf [.int s t, .ref fa] n) ∈ tl → (fa, W.listOf f.toArray k) ∈ tl → ChainVals tl vs ch → ChainVals tl (.ref ta :: vs) ((s, f) :: ch)
theorem ChainVals.mono {tl tl' : List (Addr × Obj)} {vs : List Value} {ch : List (Int × List Value)} (h : ChainVals tl vs ch) (hs : ∀ p ∈ tl, p ∈ tl') : ChainVals tl' vs ch := by
  induction h with
  | nil => exact .nil
  | cons a b _ ih => exact .cons (hs _ a) (hs _ b) ih
theorem ChainVals.len {tl : List (Addr × Obj)} {vs : List Value} {ch : List (Int × List Value)} (h : ChainVals tl vs ch) : vs.length = ch.length := by
  induction h with
  | nil => rfl
  | cons _ _ _ ih => simp [ih]
theorem ChainVals.at {tl : List (Addr × Obj)} {vs : List Value} {ch : List (Int × List Value)} (h : ChainVals tl vs ch) : ∀ {i : Nat} {v : Value}, vs[i]? = some v → ∃ ta fa s t f n k, v = .ref ta ∧ (ta, tupOf [.int s t, .ref fa] n) ∈ tl ∧ (fa, W.listOf f.toArray k) ∈ tl ∧ ch[i]? = some (s, f) := by
  induction h with
  | nil => intro i v e; simp at e
  | @cons ta fa s t f n k vs ch a b _ ih =>
    intro i v e
    cases i with
    | zero =>
      simp only [List.getElem?_cons_zero, Option.some.injEq] at e
      exact ⟨ta, fa, s, t, f, n, k, e.symm, a, b, rfl⟩
    | succ j =>
      simp only [List.getElem?_cons_succ] at e ⊢
      exact ih e
/-- a row of the stack holds what it was filled with -/
def RowIn (stk : List Value) (c : Int × List Value) : Prop := ∀ (j : Nat) (v : Value), c.2[j]? = some v → At stk (c.1 + 2 + (j : Int)) v
theorem News.drop2 {h₀ h : Heap} {L : Addr} {a b : Addr × Obj} {l : List (Addr × Obj)} (N : News h₀ L h (a :: b :: l)) : News h₀ L h l := fun p hp => N p (.tail _ (.tail _ hp))
section
variable {prog : Program} {w : World} {A : Around} {s : Shared} {h₀ : Heap} {L : Addr} {m : Str → Option Value} {env : Env}
open LCg in
theorem rest_all {elt : PySem.Expr} {x : Str} {scope : Scope} {cl : List (Str × Addr)} {S : List (Addr × Obj) → Prop} {P : Nat → Value → Prop} {Fin : List Value → List (Addr × Obj) → Prop} {news : List (Addr × Obj)} {f : List Value}
    (turn : ∀ (i : Nat) y v I oI C oC D ys m₂ h tk (E' : Value → Shared → Prop) (Rr : Value → List (Addr × Obj) → Prop), f[i]? = some y → P i v → NsObj oC m₂ → m₂ x = some v → Fr h₀ L h m → News h₀ L h ((I, oI) :: (C, oC) :: (D, lst ys) :: news) → Off3 I C D news → ((@Ne Nat I C) ∧ (@Ne Nat I D) ∧ (@Ne Nat C D)) → Rr y news →
      wpAny (model prog w) A (eval elt (compEnvC scope cl C env)) (CompEnd h₀ L m { s with heap := h, toks := tk } I oI C oC D (lst ys) S Rr) E' { s with heap := h, toks := tk })
    (fin : Fin f news) : CompRest prog w A h₀ L m env elt x scope cl s S P Fin f.length 0 [] news := by
  have key : ∀ (k i : Nat), i + k = f.length → CompRest prog w A h₀ L m env elt x scope cl s S P Fin k i (f.take i) news := by
    intro k
    induction k with
    | zero =>
      intro i hi
      rw [show f.take i = f from List.take_of_length_le (by omega)]
      exact CompRest.zero fin
    | succ k ih =>
      intro i hi
      refine CompRest.succ fun v I oI C oC D m₂ h tk E' hp ho hx F N off ne => ?_
      have hlt : i < f.length := by omega
      refine turn i f[i] v I oI C oC D _ m₂ h tk E' _ (by simp [hlt]) hp ho hx F N off ne ?_
      have := ih (i + 1) (by omega)
      rw [List.take_succ, List.getElem?_eq_getElem hlt] at this
      exact this
  have := key f.length 0 (by omega)
  simpa using this
end
end
-- L_rows
section
local macro_rules | `(tactic| walk_at "exec For Tuple") => `(tactic| (k_here; (rename Fr _ _ _ _ => lF'); (with_unfolding_all refine' For_turns lF' ?_); k_whole))
local macro_rules | `(tactic| walk_at "pyIter ref") => `(tactic| (refine Hold.out ?_))
local macro_rules | `(tactic| walk_at "CompEnd") => `(tactic| (refine Hold.out ?_))
local macro_rules | `(tactic| walk_at "CompSrc") => `(tactic| (refine Hold.out ?_))
section
variable {prog : Program} {w : World} {A A₀ : Around} {base : Heap} {outer : List Env} {env : Env} {h₀ : Heap} {L : Addr} {m : Str → Option Value} {mean : ExcName → Option Value} {mg mb : Str → Option Value} {loose : List Str} {E : Value → Shared → Prop} {s : Shared} {Q : Value → Shared → Prop}
  (B : Below A₀ base outer h₀) (F : Fr h₀ L s.heap m) (X : (kK w.params).In h₀) (T : Top kQ loose mean mg mb h₀) (hA : A.frames = some (env :: outer)) (hf : env.frame = some L) (hke : env.scope.kind = .function) (hH : A.handled = none) (hd : A.depth ≤ 480) (hu : A.units ≤ 4800)
  {kt ks : Nat → Tok} {sy rows md mm sd st hp sk tr xl ro ba : Addr} {t1 t2 t3 tb0 tmd tms tcp te tb ts1 thb tbb : Tok} {cp e b hbv bbv : Int} {nk nh nt nx nr : Nat} {stk hpv xs rws : List Value} {tl : List (Addr × Obj)}
  (G : Geo rows md mm sd st hp sk tr xl tl) (N : News h₀ L s.heap ((mm, instObj 534 md) :: (md, dictOf (mD w kt sy rows st xl ro ba t1 t2 t3 tb0 tmd tms cp tcp e te b tb) 18) :: (st, instObj 374 sd) :: (sd, dictOf (sD w ks sy hp sk tr ts1 hbv thb bbv tbb) 7) :: (sk, W.listOf (List.toArray stk) nk) :: (hp, W.listOf (List.toArray hpv) nh) :: (tr, W.listOf #[] nt) :: (xl, W.listOf (List.toArray xs) nx) :: (rows, W.listOf (List.toArray rws) nr) :: tl))
include B F X T hA hf hke hH hd hu G N
theorem c_rows {ca : Addr} {cvs : List Value} {kc : Nat} {ch : List (Int × List Value)} (hca : (ca, W.listOf cvs.toArray kc) ∈ tl) (hcv : ChainVals tl cvs ch) (hr : ∀ c ∈ ch, RowIn stk c) (hf3 : ∀ c ∈ ch, c.2.length ≤ 3)
    (h : ∀ h' tk, Fr h₀ L h' m → News h₀ L h' ((mm, instObj 534 md) :: (md, dictOf (mD w kt sy rows st xl ro ba t1 t2 t3 tb0 tmd tms cp tcp e te b tb) 18) :: (st, instObj 374 sd) :: (sd, dictOf (sD w ks sy hp sk tr ts1 hbv thb bbv tbb) 7) :: (sk, W.listOf (List.toArray stk) nk) :: (hp, W.listOf (List.toArray hpv) nh) :: (tr, W.listOf #[] nt) :: (xl, W.listOf (List.toArray xs) nx) :: (rows, W.listOf (List.toArray rws) nr) :: tl) → Q (.bool true) { s with heap := h', toks := tk }) :
    wpAny (model prog w) A (call (.ref 557) [.ref mm, .ref ca]) Q E s := by
  obtain ⟨o1, o2, o3, o4, o5, o6, o7, o8, hT⟩ := id G
  obtain ⟨g2, g3, g4, g5, g6, g7, g8⟩ := G.lts
  repeat' (first | (k_unfold; (try dsimp only)) | ((with_reducible show wpAny _ _ (compareOp .NotEq (.ref _) (.ref _)) _ _ _); k_dflt (refine' my_ne_same ?N ?a ?b ?u ?_; (case N => k_asm); (case a => exact .head _); (case b => exact .tail _ (.tail _ (.tail _ (.tail _ (mem_tl9 (by assumption)))))); (case u => (show _ < _); k_units); k_whole)) | ((with_reducible show wpAny _ _ (call (Value.builtin "len") [Value.ref _]) _ _ _); k_dflt (refine' my_len ?k1 ?k2 ?k3 ?_; (case k1 => k_asm); (case k2 => exact .tail _ (.tail _ (.tail _ (mem_tl9 (by assumption))))); (case k3 => omega); k_whole); intro _) | ((with_reducible show wpAny _ _ (assign (Expr.Tuple _ _ _) _ (Value.ref _)) _ _ _); k_dflt (refine' unpackN_ ?F ?N ?T ?k1 ?k2 ?k3 ?_; (case F => k_asm); (case N => k_asm); (case T => (refine News.isTup (by k_asm) (.tail _ (.tail _ (.tail _ (mem_tl9 (by assumption))))))); (case k1 => first | exact rfl | assumption); (case k2 => exact rfl); (case k3 => exact rfl); k_whole); intro _ _ _; (try k_sweep)) | walk1 | (dsimp only; walk1) | (leave1; walk_say "STEP leave1"; try dsimp only) | fail "no step")
  refine Hold.mk ?_
  rename_i g9 L9 h9 tk9 FG9 F9 B9 X9 T9 l9 c1 c2 d1 d2 N9
  obtain ⟨b1, b2, b3, b4, b5, b6, b7, b8, b9, bA⟩ := l9
  have bO : Off [L9 + 1 + 1, L9 + 1] tl := fun p hp d hd e => by
    have h1 : @LT.lt Nat _ p.1 L9 := tb_ltOf bA p hp
    have e' : @Eq Nat p.1 d := e
    rcases List.mem_cons.mp hd with q | hd
    · have q' : @Eq Nat d (L9 + 1 + 1) := q
      omega
    · have q' : @Eq Nat d (L9 + 1) := List.mem_singleton.mp hd
      omega
  refine' turnS (x1 := Str.ofString "fills") (x2 := Str.ofString "fills") (n := kc) (fun _ => _) (fun q : Obj => (L9 + 1 + 1, q) :: (L9 + 1, c2) :: ((mm, instObj 534 md) :: (md, dictOf (mD w kt sy rows st xl ro ba t1 t2 t3 tb0 tmd tms cp tcp e te b tb) 18) :: (st, instObj 374 sd) :: (sd, dictOf (sD w ks sy hp sk tr ts1 hbv thb bbv tbb) 7) :: (sk, W.listOf (List.toArray stk) nk) :: (hp, W.listOf (List.toArray hpv) nh) :: (tr, W.listOf #[] nt) :: (xl, W.listOf (List.toArray xs) nx) :: (rows, W.listOf (List.toArray rws) nr) :: tl)) (fun _ q => ∃ ov, q.data = .cell ov) c1 hH F9 N9 (.tail _ (.tail _ (mem_tl9 hca))) (fun _ _ _ => rfl) rfl (fun _ => .tail _ (.tail _ (mem_tl9 hca))) ⟨_, d1⟩ ?turn ?done
  case turn =>
    rintro i c3 v h' tk' I it u1 u2 hi' ⟨ov, d3⟩ ho hI F' N'
    obtain ⟨ta, fa, sp, tt, f, n, k, rfl, hta, hfa, hci⟩ := hcv.at hi'
    have hrc := hr _ (List.mem_of_getElem? hci)
    have hfl : f.length ≤ 3 := hf3 _ (List.mem_of_getElem? hci)
    have bI : Off [I, L9 + 1 + 1, L9 + 1] tl := fun p hp d hd e => by
      have h1 : @LT.lt Nat _ p.1 I := hI p (.tail _ (.tail _ (mem_tl9 hp)))
      have e' : @Eq Nat p.1 d := e
      rcases List.mem_cons.mp hd with q | hd
      · have q' : @Eq Nat d I := q
        omega
      · exact bO p hp d hd e
    k_lt hI
    dsimp only [envOfC] at ho F' N'
    clear N9 F9
    repeat' (first | (k_unfold; (try dsimp only)) | ((with_reducible show wpAny _ _ (compareOp .NotEq (.ref _) (.ref _)) _ _ _); k_dflt (refine' my_ne_same ?N ?a ?b ?u ?_; (case N => k_asm); (case a => exact .head _); (case b => exact .tail _ (.tail _ (.tail _ (.tail _ (mem_tl9 (by assumption)))))); (case u => (show _ < _); k_units); k_whole)) | ((with_reducible show wpAny _ _ (call (Value.builtin "len") [Value.ref _]) _ _ _); k_dflt (refine' my_len ?k1 ?k2 ?k3 ?_; (case k1 => k_asm); (case k2 => exact .tail _ (.tail _ (.tail _ (mem_tl9 (by assumption))))); (case k3 => omega); k_whole); intro _) | ((with_reducible show wpAny _ _ (assign (Expr.Tuple _ _ _) _ (Value.ref _)) _ _ _); k_dflt (refine' unpackN_ ?F ?N ?T ?k1 ?k2 ?k3 ?_; (case F => k_asm); (case N => k_asm); (case T => (refine News.isTup (by k_asm) (.tail _ (.tail _ (.tail _ (mem_tl9 (by assumption))))))); (case k1 => first | exact rfl | assumption); (case k2 => exact rfl); (case k3 => exact rfl); k_whole); intro _ _ _; (try k_sweep)) | walk1 | (dsimp only; walk1) | (leave1; walk_say "STEP leave1"; try dsimp only) | fail "no step")
    refine Hold.mk ?_
    refine LCg.CompSrc.range (n := f.length) hH (by assumption) (by assumption) (by assumption) (small1 (by omega) (by omega)) (by simpa using rangeSize_nat 0 (f.length : Int)) (by have : f.length ≤ 3 := hfl; exact Nat.le_trans this (by decide)) (fun g => ?gg)
    refine rest_all ?turn ?fin
    case turn =>
      rintro j y v I' oI C oC D ys m₂ h'' tk'' E' Rr hy ⟨t9, rfl⟩ ho' hx F2 N2 off ne hR
      have hat : At stk (sp + 2 + (j : Int)) y := hrc j y hy
      repeat' (first | (k_unfold; (try dsimp only)) | ((with_reducible show wpAny _ _ (compareOp .NotEq (.ref _) (.ref _)) _ _ _); k_dflt (refine' my_ne_same ?N ?a ?b ?u ?_; (case N => k_asm); (case a => exact .head _); (case b => exact .tail _ (.tail _ (.tail _ (.tail _ (mem_tl9 (by assumption)))))); (case u => (show _ < _); k_units); k_whole)) | ((with_reducible show wpAny _ _ (call (Value.builtin "len") [Value.ref _]) _ _ _); k_dflt (refine' my_len ?k1 ?k2 ?k3 ?_; (case k1 => k_asm); (case k2 => exact .tail _ (.tail _ (.tail _ (mem_tl9 (by assumption))))); (case k3 => omega); k_whole); intro _) | ((with_reducible show wpAny _ _ (assign (Expr.Tuple _ _ _) _ (Value.ref _)) _ _ _); k_dflt (refine' unpackN_ ?F ?N ?T ?k1 ?k2 ?k3 ?_; (case F => k_asm); (case N => k_asm); (case T => (refine News.isTup (by k_asm) (.tail _ (.tail _ (.tail _ (mem_tl9 (by assumption))))))); (case k1 => first | exact rfl | assumption); (case k2 => exact rfl); (case k3 => exact rfl); k_whole); intro _ _ _; (try k_sweep)) | walk1 | (dsimp only; walk1) | (leave1; walk_say "STEP leave1"; try dsimp only) | fail "no step")
      refine Hold.mk ?_
      exact LCg.CompEnd.intro (by assumption) (by assumption) _ (fun p hp => hp) off trivial hR
    case fin =>
      intro D' h'' tk'' F2 N2 o1
      repeat' (first | (k_unfold; (try dsimp only)) | ((with_reducible show wpAny _ _ (compareOp .NotEq (.ref _) (.ref _)) _ _ _); k_dflt (refine' my_ne_same ?N ?a ?b ?u ?_; (case N => k_asm); (case a => exact .head _); (case b => exact .tail _ (.tail _ (.tail _ (.tail _ (mem_tl9 (by assumption)))))); (case u => (show _ < _); k_units); k_whole)) | ((with_reducible show wpAny _ _ (call (Value.builtin "len") [Value.ref _]) _ _ _); k_dflt (refine' my_len ?k1 ?k2 ?k3 ?_; (case k1 => k_asm); (case k2 => exact .tail _ (.tail _ (.tail _ (mem_tl9 (by assumption))))); (case k3 => omega); k_whole); intro _) | ((with_reducible show wpAny _ _ (assign (Expr.Tuple _ _ _) _ (Value.ref _)) _ _ _); k_dflt (refine' unpackN_ ?F ?N ?T ?k1 ?k2 ?k3 ?_; (case F => k_asm); (case N => k_asm); (case T => (refine News.isTup (by k_asm) (.tail _ (.tail _ (.tail _ (mem_tl9 (by assumption))))))); (case k1 => first | exact rfl | assumption); (case k2 => exact rfl); (case k3 => exact rfl); k_whole); intro _ _ _; (try k_sweep)) | walk1 | (dsimp only; walk1) | (leave1; walk_say "STEP leave1"; try dsimp only) | fail "no step")
      exact LpEnd2.intro _ (by assumption) (fun y h1 h2 => by simp only [if_neg h1]; rfl) (fun p hp => N2 p (.tail _ hp)) (off_same ho) ⟨_, by assumption⟩
  case done =>
    rintro c3 u1 u2 h' tk' ⟨ov, d3⟩ F' N'
    dsimp only [envOfC] at F' N'
    clear N9 F9
    repeat' (first | (k_unfold; (try dsimp only)) | ((with_reducible show wpAny _ _ (compareOp .NotEq (.ref _) (.ref _)) _ _ _); k_dflt (refine' my_ne_same ?N ?a ?b ?u ?_; (case N => k_asm); (case a => exact .head _); (case b => exact .tail _ (.tail _ (.tail _ (.tail _ (mem_tl9 (by assumption)))))); (case u => (show _ < _); k_units); k_whole)) | ((with_reducible show wpAny _ _ (call (Value.builtin "len") [Value.ref _]) _ _ _); k_dflt (refine' my_len ?k1 ?k2 ?k3 ?_; (case k1 => k_asm); (case k2 => exact .tail _ (.tail _ (.tail _ (mem_tl9 (by assumption))))); (case k3 => omega); k_whole); intro _) | ((with_reducible show wpAny _ _ (assign (Expr.Tuple _ _ _) _ (Value.ref _)) _ _ _); k_dflt (refine' unpackN_ ?F ?N ?T ?k1 ?k2 ?k3 ?_; (case F => k_asm); (case N => k_asm); (case T => (refine News.isTup (by k_asm) (.tail _ (.tail _ (.tail _ (mem_tl9 (by assumption))))))); (case k1 => first | exact rfl | assumption); (case k2 => exact rfl); (case k3 => exact rfl); k_whole); intro _ _ _; (try k_sweep)) | walk1 | (dsimp only; walk1) | (leave1; walk_say "STEP leave1"; try dsimp only) | fail "no step")
    refine' h _ _ ?kF ?kN; (case kF => assumption); (case kN => exact News.drop2 (by assumption))
end
end
-- L_pts
section

structure Pt where
  spot : Int
  gv : List Value
  fu : Int
  ch : List (Int × List Value)
  cp : Int
  hl : Int
def ptPairs (p : Pt) (t1 t2 t3 t4 : Tok) (ga ca : Addr) : List (Str × Value) :=
  [(Str.ofString "spot", .int p.spot t1), (Str.ofString "given", .ref ga), (Str.ofString "further", .int p.fu t2), (Str.ofString "chain", .ref ca), (Str.ofString "cp", .int p.cp t3), (Str.ofString "heap", .int p.hl t4)]
inductive PtAt (prog : Program) (w : World) (tl : List (Addr × Obj)) (pa : Addr) (p : Pt) : Prop
  | mk {po : Obj} {ga ca : Addr} {t1 t2 t3 t4 : Tok} {ng kc : Nat} {cvs : List Value} : (pa, po) ∈ tl → po.IsDictOf (strKind prog w) (ptPairs p t1 t2 t3 t4 ga ca) → (ga, W.listOf p.gv.toArray ng) ∈ tl → (ca, W.listOf cvs.toArray kc) ∈ tl → ChainVals tl cvs p.ch → PtAt prog w tl pa p
theorem PtAt.mono {prog : Program} {w : World} {tl tl' : List (Addr × Obj)} {pa : Addr} {p : Pt} (h : PtAt prog w tl pa p) (hs : ∀ p ∈ tl, p ∈ tl') : PtAt prog w tl' pa p := by
  cases h with
  | mk a b c d e => exact .mk (hs _ a) b (hs _ c) (hs _ d) (e.mono hs)
inductive PtVals (prog : Program) (w : World) (tl : List (Addr × Obj)) : List Value → List Pt → Prop
  | nil : PtVals prog w tl [] []
  | cons {pa : Addr} {vs : List Value} {p : Pt} {ps : List Pt} : PtAt prog w tl pa p → PtVals prog w tl vs ps → PtVals prog w tl (.ref pa :: vs) (p :: ps)
theorem PtVals.mono {prog : Program} {w : World} {tl tl' : List (Addr × Obj)} {vs : List Value} {ps : List Pt} (h : PtVals prog w tl vs ps) (hs : ∀ p ∈ tl, p ∈ tl') : PtVals prog w tl' vs ps := by
  induction h with
  | nil => exact .nil
  | cons a _ ih => exact .cons (a.mono hs) ih
theorem PtVals.len {prog : Program} {w : World} {tl : List (Addr × Obj)} {vs : List Value} {ps : List Pt} (h : PtVals prog w tl vs ps) : vs.length = ps.length := by
  induction h with
  | nil => rfl
  | cons _ _ ih => simp [ih]
theorem PtVals.at {prog : Program} {w : World} {tl : List (Addr × Obj)} {vs : List Value} {ps : List Pt} (h : PtVals prog w tl vs ps) : ∀ {i : Nat} {v : Value}, vs[i]? = some v → ∃ pa p, v = .ref pa ∧ ps[i]? = some p ∧ PtAt prog w tl pa p := by
  induction h with
  | nil => intro i v e; simp at e
  | @cons pa vs p ps a _ ih =>
    intro i v e
    cases i with
    | zero =>
      simp only [List.getElem?_cons_zero, Option.some.injEq] at e
      exact ⟨pa, p, e.symm, rfl, a⟩
    | succ j =>
      simp only [List.getElem?_cons_succ] at e ⊢
      exact ih e
/-- the spots of a chain, as the values that the comprehension gathers -/
theorem ChainVals.firsts {tl : List (Addr × Obj)} {vs : List Value} {ch : List (Int × List Value)} (h : ChainVals tl vs ch) : ∃ f : List Value, f.length = vs.length ∧ IntsAre f (ch.map (·.1)) ∧
    ∀ (i : Nat) (y v : Value), f[i]? = some y → vs[i]? = some v → ∃ ta fa n, v = .ref ta ∧ (ta, tupOf [y, .ref fa] n) ∈ tl := by
  induction h with
  | nil => exact ⟨[], rfl, .nil, fun i y v e => by simp at e⟩
  | @cons ta fa s t f n k vs ch a b _ ih =>
    obtain ⟨g, hl, hi, hg⟩ := ih
    refine ⟨.int s t :: g, by simp [hl], .cons _ _ hi, fun i y v e1 e2 => ?_⟩
    cases i with
    | zero =>
      simp only [List.getElem?_cons_zero, Option.some.injEq] at e1 e2
      subst e1; subst e2
      exact ⟨ta, fa, n, rfl, a⟩
    | succ j =>
      simp only [List.getElem?_cons_succ] at e1 e2
      exact hg j y v e1 e2
theorem PtVals.spots {prog : Program} {w : World} {tl : List (Addr × Obj)} {vs : List Value} {ps : List Pt} (h : PtVals prog w tl vs ps) : ∃ f : List Value, f.length = vs.length ∧ IntsAre f (ps.map (·.spot)) ∧
    ∀ (i : Nat) (y v : Value), f[i]? = some y → vs[i]? = some v → ∃ pa po kvs, v = .ref pa ∧ (pa, po) ∈ tl ∧ po.IsDictOf (strKind prog w) kvs ∧ valueAt kvs (Str.ofString "spot") = some y := by
  induction h with
  | nil => exact ⟨[], rfl, .nil, fun i y v e => by simp at e⟩
  | @cons pa vs p ps a _ ih =>
    obtain ⟨g, hl, hi, hg⟩ := ih
    cases a with
    | @mk po ga ca t1 t2 t3 t4 ng kc cvs a1 a2 a3 a4 a5 =>
    refine ⟨.int p.spot t1 :: g, by simp [hl], .cons _ _ hi, fun i y v e1 e2 => ?_⟩
    cases i with
    | zero =>
      simp only [List.getElem?_cons_zero, Option.some.injEq] at e1 e2
      subst e1; subst e2
      exact ⟨pa, po, _, rfl, a1, a2, rfl⟩
    | succ j =>
      simp only [List.getElem?_cons_succ] at e1 e2
      exact hg j y v e1 e2
theorem News.tail9' {h₀ h : Heap} {L : Addr} {t : Addr × Obj} {l : List (Addr × Obj)} (N : News h₀ L h (t :: l)) : News h₀ L h l := fun p hp => N p (.tail _ hp)
theorem News.tl9 {h₀ h : Heap} {L : Addr} {a1 a2 a3 a4 a5 a6 a7 a8 a9 : Addr × Obj} {tl tl' : List (Addr × Obj)} (N : News h₀ L h (a1 :: a2 :: a3 :: a4 :: a5 :: a6 :: a7 :: a8 :: a9 :: tl')) (hs : ∀ p ∈ tl, p ∈ tl') : News h₀ L h (a1 :: a2 :: a3 :: a4 :: a5 :: a6 :: a7 :: a8 :: a9 :: tl) := fun p hp => by
  rcases List.mem_append.mp (show p ∈ [a1, a2, a3, a4, a5, a6, a7, a8, a9] ++ tl from hp) with h | h
  · exact N p (List.mem_append_left tl' h)
  · exact N p (mem_tl9 (hs p h))
structure PtOK (stk : List Value) (p : Pt) : Prop where
  n : ∃ t, At stk p.spot (.int (p.gv.length : Int) t)
  g : ∀ (j : Nat) (v : Value), p.gv[j]? = some v → At stk (p.spot + 1 + (j : Int)) v
  fu : ∃ t, At stk (p.spot + (p.gv.length : Int) + 4) (.int p.fu t)
  rows : ∀ c ∈ p.ch, RowIn stk c
  f3 : ∀ c ∈ p.ch, c.2.length ≤ 3
  g3 : p.gv.length ≤ 3
theorem bounds_two {i j : Int} {n : Nat} (h0 : 0 ≤ i) (hi : i ≤ n) (h1 : 0 ≤ j) (hj : j ≤ n) : sliceBounds (some i) (some j) none n = (i, j, 1) := by
  unfold sliceBounds
  have e1 : ¬ i < 0 := by omega
  have e2 : ¬ j < 0 := by omega
  simp [e1, e2]
  omega
theorem pick_gv {stk gv : List Value} {s : Int} {v : Value} (h : At stk s v) (hg : ∀ (j : Nat) (v : Value), gv[j]? = some v → At stk (s + 1 + (j : Int)) v) :
    (slicePick stk.toArray (some (s + 1)) (some (s + 1 + (gv.length : Int))) none).toList = gv := by
  have h0 := h.1
  have hs : s.toNat < stk.length := (List.getElem?_eq_some_iff.mp h.2.2).1
  have hb : s + 1 + (gv.length : Int) ≤ stk.length := by
    by_cases e : gv.length = 0
    · omega
    · have hg1 := hg (gv.length - 1) (gv[gv.length - 1]'(by omega)) (by simp)
      have := (List.getElem?_eq_some_iff.mp hg1.2.2).1
      omega
  have e : sliceBounds (some (s + 1)) (some (s + 1 + (gv.length : Int))) none stk.toArray.size = ((((s + 1).toNat : Nat) : Int), (((s + 1).toNat + gv.length : Nat) : Int), 1) := by
    rw [List.size_toArray, bounds_two (by omega) (by omega) (by omega) hb]
    have : (((s + 1).toNat : Nat) : Int) = s + 1 := by omega
    rw [this]
    congr 2
    omega
  rw [kmk_pick_nat _ e]
  have e2 : (s + 1).toNat + gv.length - (s + 1).toNat = gv.length := by omega
  rw [e2]
  show (stk.drop (s + 1).toNat).take gv.length = gv
  apply List.ext_getElem?
  intro j
  by_cases hj : j < gv.length
  · rw [List.getElem?_take_of_lt hj, List.getElem?_drop]
    have hg1 := (hg j gv[j] (by simp [hj])).2.2
    rw [show (s + 1 + (j : Int)).toNat = (s + 1).toNat + j by omega] at hg1
    rw [hg1]; simp [hj]
  · rw [List.getElem?_eq_none (by simp; omega), List.getElem?_eq_none (by omega)]
theorem ints_ne {prog : Program} {w : World} {A : Around} {E : Value → Shared → Prop} {s : Shared} {h₀ : Heap} {L a b : Addr} {news : List (Addr × Obj)} {vs us : List Value} {n n' : Nat} {ns : List Int} {Q : Value → Shared → Prop} (N : News h₀ L s.heap news) (ha : (a, W.listOf vs.toArray n) ∈ news) (hi : IntsAre vs ns) (hb : (b, W.listOf us.toArray n') ∈ news) (hi' : IntsAre us ns) (hu : A.units + 64 < cLine)
    (h : Q (.bool false) s) : wpAny (model prog w) A (compareOp .NotEq (.ref a) (.ref b)) Q E s :=
  ne_intsK ⟨_, (N _ ha).1, rfl, n, rfl⟩ hi ⟨_, (N _ hb).1, rfl, n', rfl⟩ hi' hu (by simpa using h)
section
variable {prog : Program} {w : World} {A : Around} {s : Shared} {h₀ : Heap} {L : Addr} {m : Str → Option Value} {env : Env}
open LCg LCp in
theorem restP_all {elt : PySem.Expr} {x x₂ : Str} {scope : Scope} {cl : List (Str × Addr)} {S : List (Addr × Obj) → Prop} {P : Nat → Value → Prop} {Fin : List Value → List (Addr × Obj) → Prop} {news : List (Addr × Obj)} {f : List Value}
    (turn : ∀ (i : Nat) y v, f[i]? = some y → P i v → ∃ (t : Addr) (ot : Obj) (v₁ v₂ : Value) (nt : Nat), v = .ref t ∧ (t, ot) ∈ news ∧ ot.cls = .type "tuple" ∧ ot.data = .seq #[v₁, v₂] nt ∧
      ∀ I oI C oC D ys m₂ h tk (E' : Value → Shared → Prop) (Rr : Value → List (Addr × Obj) → Prop), NsObj oC m₂ → m₂ x = some v₁ → m₂ x₂ = some v₂ → Fr h₀ L h m → News h₀ L h ((I, oI) :: (C, oC) :: (D, lst ys) :: news) → Off3 I C D news → ((@Ne Nat I C) ∧ (@Ne Nat I D) ∧ (@Ne Nat C D)) → Rr y news →
      wpAny (model prog w) A (eval elt (compEnvC scope cl C env)) (CompEnd h₀ L m { s with heap := h, toks := tk } I oI C oC D (lst ys) S Rr) E' { s with heap := h, toks := tk })
    (fin : Fin f news) : CompRestP prog w A h₀ L m env elt x x₂ scope cl s S P Fin f.length 0 [] news := by
  have key : ∀ (k i : Nat), i + k = f.length → CompRestP prog w A h₀ L m env elt x x₂ scope cl s S P Fin k i (f.take i) news := by
    intro k
    induction k with
    | zero =>
      intro i hi
      rw [show f.take i = f from List.take_of_length_le (by omega)]
      exact CompRestP.zero fin
    | succ k ih =>
      intro i hi
      refine CompRestP.succ fun v hp => ?_
      have hlt : i < f.length := by omega
      obtain ⟨t, ot, v₁, v₂, nt, e, h1, h2, h3, h4⟩ := turn i f[i] v (by simp [hlt]) hp
      refine ⟨t, ot, v₁, v₂, nt, e, h1, h2, h3, fun I oI C oC D m₂ h tk E' ho hx hy F N off ne => ?_⟩
      refine h4 I oI C oC D _ m₂ h tk E' _ ho hx hy F N off ne ?_
      have := ih (i + 1) (by omega)
      rw [List.take_succ, List.getElem?_eq_getElem hlt] at this
      exact this
  have := key f.length 0 (by omega)
  simpa using this
end
end
local macro_rules | `(tactic| walk_at "my_cv") => `(tactic| first | assumption | (refine' Mine.ChainVals.mono ?q (fun _ hp => List.mem_cons_of_mem _ hp); (case q => walk_at "my_cv")))
local macro_rules | `(tactic| walk_at "my_pv") => `(tactic| first | assumption | (refine' Mine.PtVals.mono ?q (fun _ hp => List.mem_cons_of_mem _ hp); (case q => walk_at "my_pv")))
-- L_stands
section
local macro_rules | `(tactic| walk_at "pyIter ref") => `(tactic| (refine Hold.out ?_))
local macro_rules | `(tactic| walk_at "SrcLP") => `(tactic| (refine Hold.out ?_))
local macro_rules | `(tactic| walk_at "CompEnd") => `(tactic| (refine Hold.out ?_))
local macro_rules | `(tactic| walk_at "CompSrc") => `(tactic| (refine Hold.out ?_))
local macro_rules | `(tactic| walk_at "subscriptTail Name Slice ref ref") => `(tactic| ((with_reducible show wpAny _ _ (subscriptTail _ (PySem.Expr.Slice _ _ none _) (Value.ref _) (Value.ref _)) _ _ _); k_dflt (refine' kmk_slice_lit ?F ?N ?l ?p ?q ?e ?_ ?s ?t ?z; (case F => k_asm); (case N => k_asm); (case l => kmk_list); (case p => kmk_part); (case q => kmk_part); (case e => exact pick_gv (by assumption) (by assumption)); (case s => with_unfolding_all rfl); (case t => kmk_pure); (case z => rw [List.size_toArray, sizeLine_eq]; omega)); intro D' h' F' N' l1; (try k_lt l1); (try k_sweep)))
section
variable {prog : Program} {w : World} {A A₀ : Around} {base : Heap} {outer : List Env} {env : Env} {h₀ : Heap} {L : Addr} {m : Str → Option Value} {mean : ExcName → Option Value} {mg mb : Str → Option Value} {loose : List Str} {E : Value → Shared → Prop} {s : Shared} {Q : Value → Shared → Prop}
  (B : Below A₀ base outer h₀) (F : Fr h₀ L s.heap m) (X : (kK w.params).In h₀) (T : Top kQ loose mean mg mb h₀) (hA : A.frames = some (env :: outer)) (hf : env.frame = some L) (hke : env.scope.kind = .function) (hH : A.handled = none) (hd : A.depth ≤ 470) (hu : A.units ≤ 4700)
  {kt ks : Nat → Tok} {sy rows md mm sd st hp sk tr xl ro ba : Addr} {t1 t2 t3 tb0 tmd tms tcp te tb ts1 thb tbb : Tok} {cp e b hbv bbv : Int} {nk nh nt nx nr : Nat} {stk hpv xs rws : List Value} {tl : List (Addr × Obj)}
  (G : Geo rows md mm sd st hp sk tr xl tl) (N : News h₀ L s.heap ((mm, instObj 534 md) :: (md, dictOf (mD w kt sy rows st xl ro ba t1 t2 t3 tb0 tmd tms cp tcp e te b tb) 18) :: (st, instObj 374 sd) :: (sd, dictOf (sD w ks sy hp sk tr ts1 hbv thb bbv tbb) 7) :: (sk, W.listOf (List.toArray stk) nk) :: (hp, W.listOf (List.toArray hpv) nh) :: (tr, W.listOf #[] nt) :: (xl, W.listOf (List.toArray xs) nx) :: (rows, W.listOf (List.toArray rws) nr) :: tl))
include B F X T hA hf hke hH hd hu G N
theorem c_stands {ca pa : Addr} {cvs pvs : List Value} {kc kp : Nat} {ch : List (Int × List Value)} {pts : List Pt} (hca : (ca, W.listOf cvs.toArray kc) ∈ tl) (hcv : ChainVals tl cvs ch) (hpa : (pa, W.listOf pvs.toArray kp) ∈ tl) (hpw : PtVals prog w tl pvs pts)
    (hl : Links (At stk) e (ch.map (·.1))) (hb : Links (fun x v => ∃ c tc, At stk x (.int c tc) ∧ At stk (x + c + 3) v) b (pts.map (·.spot))) (hz : ch.length ≤ 1000) (hz2 : pts.length ≤ 1000) (hzs : stk.length ≤ 100000) (hr : ∀ c ∈ ch, RowIn stk c) (hf3 : ∀ c ∈ ch, c.2.length ≤ 3) (hpt : ∀ p ∈ pts, PtOK stk p)
    (h : ∀ h' tk, Fr h₀ L h' m → News h₀ L h' ((mm, instObj 534 md) :: (md, dictOf (mD w kt sy rows st xl ro ba t1 t2 t3 tb0 tmd tms cp tcp e te b tb) 18) :: (st, instObj 374 sd) :: (sd, dictOf (sD w ks sy hp sk tr ts1 hbv thb bbv tbb) 7) :: (sk, W.listOf (List.toArray stk) nk) :: (hp, W.listOf (List.toArray hpv) nh) :: (tr, W.listOf #[] nt) :: (xl, W.listOf (List.toArray xs) nx) :: (rows, W.listOf (List.toArray rws) nr) :: tl) → Q (.bool true) { s with heap := h', toks := tk }) :
    wpAny (model prog w) A (call (.ref 562) [.ref mm, .ref ca, .ref pa]) Q E s := by
  obtain ⟨o1, o2, o3, o4, o5, o6, o7, o8, hT⟩ := id G
  obtain ⟨g2, g3, g4, g5, g6, g7, g8⟩ := G.lts
  obtain ⟨fc, fcl, fci, fca⟩ := hcv.firsts
  obtain ⟨fp, fpl, fpi, fpa⟩ := hpw.spots
  have hz' : (ch.map (·.1)).length ≤ 1000 := by simpa using hz
  have hz2' : (pts.map (·.spot)).length ≤ 1000 := by simpa using hz2
  have cl1 := hcv.len
  have cl2 := hpw.len
  repeat' (first | (k_unfold; (try dsimp only)) | ((with_reducible show wpAny _ _ (call (Value.ref _) _) _ _ _); first | ((with_reducible show wpAny _ _ (call (Value.ref 557) _) _ _ _); refine Hold.out ?_) | ((with_reducible show wpAny _ _ (call (Value.ref 524) _) _ _ _); (k_dflt (refine' c_choices ?B ?F ?X ?T ?hA ?hf ?hke ?hH ?hd ?hu ?G ?N ?x0 ?x1 ?_; (case N => tb_rel); (case B => k_asm); (case F => k_asm); (case X => k_asm); (case T => k_asm); (case hA => tb_start); (case hf => tb_start); (case hke => tb_start); (case hH => assumption); (case hd => ktr_room); (case hu => ktr_room); (case G => ktr_rel); (case x0 => first | assumption | ((repeat refine len_step (by assumption) ?_ (by rfl)); exact Nat.le_of_ble_eq_true (by rfl)) | omega); (case x1 => first | assumption | ((repeat refine len_step (by assumption) ?_ (by rfl)); exact Nat.le_of_ble_eq_true (by rfl)) | omega); k_whole); (try dsimp only); intro _ _ _ _ _ _ _ _ _; (try k_sweep))) | ((with_reducible show wpAny _ _ (call (Value.ref 531) _) _ _ _); (k_dflt (refine' c_envs ?B ?F ?X ?T ?hA ?hf ?hke ?hH ?hd ?hu ?G ?N ?x0 ?x1 ?_; (case N => tb_rel); (case B => k_asm); (case F => k_asm); (case X => k_asm); (case T => k_asm); (case hA => tb_start); (case hf => tb_start); (case hke => tb_start); (case hH => assumption); (case hd => ktr_room); (case hu => ktr_room); (case G => ktr_rel); (case x0 => first | assumption | ((repeat refine len_step (by assumption) ?_ (by rfl)); exact Nat.le_of_ble_eq_true (by rfl)) | omega); (case x1 => first | assumption | ((repeat refine len_step (by assumption) ?_ (by rfl)); exact Nat.le_of_ble_eq_true (by rfl)) | omega); k_whole); (try dsimp only); intro _ _ _ _ _ _ _ _ _; (try k_sweep))) | ((with_reducible show wpAny _ _ (call (Value.ref 557) _) _ _ _); (k_dflt (refine' c_rows ?B ?F ?X ?T ?hA ?hf ?hke ?hH ?hd ?hu ?G ?N ?x0 ?x1 ?x2 ?x3 ?_; (case N => tb_rel); (case B => k_asm); (case F => k_asm); (case X => k_asm); (case T => k_asm); (case hA => tb_start); (case hf => tb_start); (case hke => tb_start); (case hH => assumption); (case hd => ktr_room); (case hu => ktr_room); (case G => ktr_rel); (case x0 => walk_at "my_mem"); (case x1 => walk_at "my_cv"); (case x2 => assumption); (case x3 => assumption); k_whole); (try dsimp only); intro _ _ _ _; (try k_sweep)))) | ((with_reducible show wpAny _ _ (call (Value.builtin "len") [Value.ref _]) _ _ _); k_dflt (refine' my_len ?k1 ?k2 ?k3 ?_; (case k1 => k_asm); (case k2 => walk_at "my_mem"); (case k3 => omega); k_whole); intro _) | ((with_reducible show wpAny _ _ (subscriptTail _ _ (Value.ref _) (Value.str _ _)) _ _ _); k_dflt (refine' kda_item (knd := PySem.strKind _ _) ?a ?b ?c (strKind_is _ _ _ _) ?d ?_; (case a => k_asm); (case b => walk_at "my_mem"); (case c => assumption); (case d => first | assumption | rfl); k_whole)) | ((with_reducible show wpAny _ _ (compareOp .NotEq (.ref _) (.ref _)) _ _ _); refine Hold.out ?_) | walk1 | (dsimp only; walk1) | (leave1; walk_say "STEP leave1"; try dsimp only) | fail "no step")
  refine Hold.mk ?_
  rename_i g9 L9 FG9 B9 X9 T9 l9 h1 tk1 D1 vs1 n1 hi1 G1 F1 N1
  refine LCp.SrcLP.ledger (its := cvs.toArray) (k := kc) hH (by assumption) (by assumption) (show (ca, W.listOf cvs.toArray kc) ∈ _ by walk_at "my_mem") (by rw [sizeLine_eq, List.size_toArray]; omega) (fun g => ?_)
  rw [show cvs.toArray.size = fc.length by rw [List.size_toArray, fcl]]
  refine restP_all ?turn ?fin
  case turn =>
    intro i y v hy hv
    obtain ⟨ta, fa, n, rfl, hta⟩ := fca i y v hy (by simpa using hv)
    refine ⟨ta, _, y, .ref fa, n, rfl, (show (ta, tupOf [y, .ref fa] n) ∈ _ by walk_at "my_mem"), rfl, rfl, ?_⟩
    intro I' oI C oC D ys m₂ h'' tk'' E' Rr ho' hx hy' F2 N2 off ne hR
    repeat' (first | (k_unfold; (try dsimp only)) | ((with_reducible show wpAny _ _ (call (Value.ref _) _) _ _ _); first | ((with_reducible show wpAny _ _ (call (Value.ref 557) _) _ _ _); refine Hold.out ?_) | ((with_reducible show wpAny _ _ (call (Value.ref 524) _) _ _ _); (k_dflt (refine' c_choices ?B ?F ?X ?T ?hA ?hf ?hke ?hH ?hd ?hu ?G ?N ?x0 ?x1 ?_; (case N => tb_rel); (case B => k_asm); (case F => k_asm); (case X => k_asm); (case T => k_asm); (case hA => tb_start); (case hf => tb_start); (case hke => tb_start); (case hH => assumption); (case hd => ktr_room); (case hu => ktr_room); (case G => ktr_rel); (case x0 => first | assumption | ((repeat refine len_step (by assumption) ?_ (by rfl)); exact Nat.le_of_ble_eq_true (by rfl)) | omega); (case x1 => first | assumption | ((repeat refine len_step (by assumption) ?_ (by rfl)); exact Nat.le_of_ble_eq_true (by rfl)) | omega); k_whole); (try dsimp only); intro _ _ _ _ _ _ _ _ _; (try k_sweep))) | ((with_reducible show wpAny _ _ (call (Value.ref 531) _) _ _ _); (k_dflt (refine' c_envs ?B ?F ?X ?T ?hA ?hf ?hke ?hH ?hd ?hu ?G ?N ?x0 ?x1 ?_; (case N => tb_rel); (case B => k_asm); (case F => k_asm); (case X => k_asm); (case T => k_asm); (case hA => tb_start); (case hf => tb_start); (case hke => tb_start); (case hH => assumption); (case hd => ktr_room); (case hu => ktr_room); (case G => ktr_rel); (case x0 => first | assumption | ((repeat refine len_step (by assumption) ?_ (by rfl)); exact Nat.le_of_ble_eq_true (by rfl)) | omega); (case x1 => first | assumption | ((repeat refine len_step (by assumption) ?_ (by rfl)); exact Nat.le_of_ble_eq_true (by rfl)) | omega); k_whole); (try dsimp only); intro _ _ _ _ _ _ _ _ _; (try k_sweep))) | ((with_reducible show wpAny _ _ (call (Value.ref 557) _) _ _ _); (k_dflt (refine' c_rows ?B ?F ?X ?T ?hA ?hf ?hke ?hH ?hd ?hu ?G ?N ?x0 ?x1 ?x2 ?x3 ?_; (case N => tb_rel); (case B => k_asm); (case F => k_asm); (case X => k_asm); (case T => k_asm); (case hA => tb_start); (case hf => tb_start); (case hke => tb_start); (case hH => assumption); (case hd => ktr_room); (case hu => ktr_room); (case G => ktr_rel); (case x0 => walk_at "my_mem"); (case x1 => walk_at "my_cv"); (case x2 => assumption); (case x3 => assumption); k_whole); (try dsimp only); intro _ _ _ _; (try k_sweep)))) | ((with_reducible show wpAny _ _ (call (Value.builtin "len") [Value.ref _]) _ _ _); k_dflt (refine' my_len ?k1 ?k2 ?k3 ?_; (case k1 => k_asm); (case k2 => walk_at "my_mem"); (case k3 => omega); k_whole); intro _) | ((with_reducible show wpAny _ _ (subscriptTail _ _ (Value.ref _) (Value.str _ _)) _ _ _); k_dflt (refine' kda_item (knd := PySem.strKind _ _) ?a ?b ?c (strKind_is _ _ _ _) ?d ?_; (case a => k_asm); (case b => walk_at "my_mem"); (case c => assumption); (case d => first | assumption | rfl); k_whole)) | ((with_reducible show wpAny _ _ (compareOp .NotEq (.ref _) (.ref _)) _ _ _); refine Hold.out ?_) | walk1 | (dsimp only; walk1) | (leave1; walk_say "STEP leave1"; try dsimp only) | fail "no step")
    refine Hold.mk ?_
    exact LCg.CompEnd.intro (by assumption) (by assumption) _ (fun p hp => hp) off (.inr ⟨_, (show (ca, W.listOf cvs.toArray kc) ∈ _ by walk_at "my_mem"), rfl, _, rfl⟩) hR
  case fin =>
    intro D2 h2 tk2 F2 N2 o1
    simp only [LCg.Off1] at o1
    repeat' (first | (k_unfold; (try dsimp only)) | ((with_reducible show wpAny _ _ (call (Value.ref _) _) _ _ _); first | ((with_reducible show wpAny _ _ (call (Value.ref 557) _) _ _ _); refine Hold.out ?_) | ((with_reducible show wpAny _ _ (call (Value.ref 524) _) _ _ _); (k_dflt (refine' c_choices ?B ?F ?X ?T ?hA ?hf ?hke ?hH ?hd ?hu ?G ?N ?x0 ?x1 ?_; (case N => tb_rel); (case B => k_asm); (case F => k_asm); (case X => k_asm); (case T => k_asm); (case hA => tb_start); (case hf => tb_start); (case hke => tb_start); (case hH => assumption); (case hd => ktr_room); (case hu => ktr_room); (case G => ktr_rel); (case x0 => first | assumption | ((repeat refine len_step (by assumption) ?_ (by rfl)); exact Nat.le_of_ble_eq_true (by rfl)) | omega); (case x1 => first | assumption | ((repeat refine len_step (by assumption) ?_ (by rfl)); exact Nat.le_of_ble_eq_true (by rfl)) | omega); k_whole); (try dsimp only); intro _ _ _ _ _ _ _ _ _; (try k_sweep))) | ((with_reducible show wpAny _ _ (call (Value.ref 531) _) _ _ _); (k_dflt (refine' c_envs ?B ?F ?X ?T ?hA ?hf ?hke ?hH ?hd ?hu ?G ?N ?x0 ?x1 ?_; (case N => tb_rel); (case B => k_asm); (case F => k_asm); (case X => k_asm); (case T => k_asm); (case hA => tb_start); (case hf => tb_start); (case hke => tb_start); (case hH => assumption); (case hd => ktr_room); (case hu => ktr_room); (case G => ktr_rel); (case x0 => first | assumption | ((repeat refine len_step (by assumption) ?_ (by rfl)); exact Nat.le_of_ble_eq_true (by rfl)) | omega); (case x1 => first | assumption | ((repeat refine len_step (by assumption) ?_ (by rfl)); exact Nat.le_of_ble_eq_true (by rfl)) | omega); k_whole); (try dsimp only); intro _ _ _ _ _ _ _ _ _; (try k_sweep))) | ((with_reducible show wpAny _ _ (call (Value.ref 557) _) _ _ _); (k_dflt (refine' c_rows ?B ?F ?X ?T ?hA ?hf ?hke ?hH ?hd ?hu ?G ?N ?x0 ?x1 ?x2 ?x3 ?_; (case N => tb_rel); (case B => k_asm); (case F => k_asm); (case X => k_asm); (case T => k_asm); (case hA => tb_start); (case hf => tb_start); (case hke => tb_start); (case hH => assumption); (case hd => ktr_room); (case hu => ktr_room); (case G => ktr_rel); (case x0 => walk_at "my_mem"); (case x1 => walk_at "my_cv"); (case x2 => assumption); (case x3 => assumption); k_whole); (try dsimp only); intro _ _ _ _; (try k_sweep)))) | ((with_reducible show wpAny _ _ (call (Value.builtin "len") [Value.ref _]) _ _ _); k_dflt (refine' my_len ?k1 ?k2 ?k3 ?_; (case k1 => k_asm); (case k2 => walk_at "my_mem"); (case k3 => omega); k_whole); intro _) | ((with_reducible show wpAny _ _ (subscriptTail _ _ (Value.ref _) (Value.str _ _)) _ _ _); k_dflt (refine' kda_item (knd := PySem.strKind _ _) ?a ?b ?c (strKind_is _ _ _ _) ?d ?_; (case a => k_asm); (case b => walk_at "my_mem"); (case c => assumption); (case d => first | assumption | rfl); k_whole)) | ((with_reducible show wpAny _ _ (compareOp .NotEq (.ref _) (.ref _)) _ _ _); refine Hold.out ?_) | walk1 | (dsimp only; walk1) | (leave1; walk_say "STEP leave1"; try dsimp only) | fail "no step")
    refine Hold.mk ?_
    refine' ints_ne ?N ?a ?i ?b ?j ?u ?_; (case N => assumption); (case a => walk_at "my_mem"); (case i => assumption); (case b => exact .head _); (case j => assumption); (case u => (show _ < _); k_units)
    repeat' (first | (k_unfold; (try dsimp only)) | ((with_reducible show wpAny _ _ (call (Value.ref _) _) _ _ _); first | ((with_reducible show wpAny _ _ (call (Value.ref 557) _) _ _ _); refine Hold.out ?_) | ((with_reducible show wpAny _ _ (call (Value.ref 524) _) _ _ _); (k_dflt (refine' c_choices ?B ?F ?X ?T ?hA ?hf ?hke ?hH ?hd ?hu ?G ?N ?x0 ?x1 ?_; (case N => tb_rel); (case B => k_asm); (case F => k_asm); (case X => k_asm); (case T => k_asm); (case hA => tb_start); (case hf => tb_start); (case hke => tb_start); (case hH => assumption); (case hd => ktr_room); (case hu => ktr_room); (case G => ktr_rel); (case x0 => first | assumption | ((repeat refine len_step (by assumption) ?_ (by rfl)); exact Nat.le_of_ble_eq_true (by rfl)) | omega); (case x1 => first | assumption | ((repeat refine len_step (by assumption) ?_ (by rfl)); exact Nat.le_of_ble_eq_true (by rfl)) | omega); k_whole); (try dsimp only); intro _ _ _ _ _ _ _ _ _; (try k_sweep))) | ((with_reducible show wpAny _ _ (call (Value.ref 531) _) _ _ _); (k_dflt (refine' c_envs ?B ?F ?X ?T ?hA ?hf ?hke ?hH ?hd ?hu ?G ?N ?x0 ?x1 ?_; (case N => tb_rel); (case B => k_asm); (case F => k_asm); (case X => k_asm); (case T => k_asm); (case hA => tb_start); (case hf => tb_start); (case hke => tb_start); (case hH => assumption); (case hd => ktr_room); (case hu => ktr_room); (case G => ktr_rel); (case x0 => first | assumption | ((repeat refine len_step (by assumption) ?_ (by rfl)); exact Nat.le_of_ble_eq_true (by rfl)) | omega); (case x1 => first | assumption | ((repeat refine len_step (by assumption) ?_ (by rfl)); exact Nat.le_of_ble_eq_true (by rfl)) | omega); k_whole); (try dsimp only); intro _ _ _ _ _ _ _ _ _; (try k_sweep))) | ((with_reducible show wpAny _ _ (call (Value.ref 557) _) _ _ _); (k_dflt (refine' c_rows ?B ?F ?X ?T ?hA ?hf ?hke ?hH ?hd ?hu ?G ?N ?x0 ?x1 ?x2 ?x3 ?_; (case N => tb_rel); (case B => k_asm); (case F => k_asm); (case X => k_asm); (case T => k_asm); (case hA => tb_start); (case hf => tb_start); (case hke => tb_start); (case hH => assumption); (case hd => ktr_room); (case hu => ktr_room); (case G => ktr_rel); (case x0 => walk_at "my_mem"); (case x1 => walk_at "my_cv"); (case x2 => assumption); (case x3 => assumption); k_whole); (try dsimp only); intro _ _ _ _; (try k_sweep)))) | ((with_reducible show wpAny _ _ (call (Value.builtin "len") [Value.ref _]) _ _ _); k_dflt (refine' my_len ?k1 ?k2 ?k3 ?_; (case k1 => k_asm); (case k2 => walk_at "my_mem"); (case k3 => omega); k_whole); intro _) | ((with_reducible show wpAny _ _ (subscriptTail _ _ (Value.ref _) (Value.str _ _)) _ _ _); k_dflt (refine' kda_item (knd := PySem.strKind _ _) ?a ?b ?c (strKind_is _ _ _ _) ?d ?_; (case a => k_asm); (case b => walk_at "my_mem"); (case c => assumption); (case d => first | assumption | rfl); k_whole)) | ((with_reducible show wpAny _ _ (compareOp .NotEq (.ref _) (.ref _)) _ _ _); refine Hold.out ?_) | walk1 | (dsimp only; walk1) | (leave1; walk_say "STEP leave1"; try dsimp only) | fail "no step")
    refine Hold.mk ?_
    (k_dflt (refine' c_rows ?B ?F ?X ?T ?hA ?hf ?hke ?hH ?hd ?hu ?G ?N ?x0 ?x1 ?x2 ?x3 ?_; (case N => tb_rel); (case B => k_asm); (case F => k_asm); (case X => k_asm); (case T => k_asm); (case hA => tb_start); (case hf => tb_start); (case hke => tb_start); (case hH => assumption); (case hd => ktr_room); (case hu => ktr_room); (case G => ktr_rel); (case x0 => walk_at "my_mem"); (case x1 => walk_at "my_cv"); (case x2 => assumption); (case x3 => assumption); k_whole); (try dsimp only); intro h3 tk3 F3 N3; (try k_sweep))
    repeat' (first | (k_unfold; (try dsimp only)) | ((with_reducible show wpAny _ _ (call (Value.ref _) _) _ _ _); first | ((with_reducible show wpAny _ _ (call (Value.ref 557) _) _ _ _); refine Hold.out ?_) | ((with_reducible show wpAny _ _ (call (Value.ref 524) _) _ _ _); (k_dflt (refine' c_choices ?B ?F ?X ?T ?hA ?hf ?hke ?hH ?hd ?hu ?G ?N ?x0 ?x1 ?_; (case N => tb_rel); (case B => k_asm); (case F => k_asm); (case X => k_asm); (case T => k_asm); (case hA => tb_start); (case hf => tb_start); (case hke => tb_start); (case hH => assumption); (case hd => ktr_room); (case hu => ktr_room); (case G => ktr_rel); (case x0 => first | assumption | ((repeat refine len_step (by assumption) ?_ (by rfl)); exact Nat.le_of_ble_eq_true (by rfl)) | omega); (case x1 => first | assumption | ((repeat refine len_step (by assumption) ?_ (by rfl)); exact Nat.le_of_ble_eq_true (by rfl)) | omega); k_whole); (try dsimp only); intro _ _ _ _ _ _ _ _ _; (try k_sweep))) | ((with_reducible show wpAny _ _ (call (Value.ref 531) _) _ _ _); (k_dflt (refine' c_envs ?B ?F ?X ?T ?hA ?hf ?hke ?hH ?hd ?hu ?G ?N ?x0 ?x1 ?_; (case N => tb_rel); (case B => k_asm); (case F => k_asm); (case X => k_asm); (case T => k_asm); (case hA => tb_start); (case hf => tb_start); (case hke => tb_start); (case hH => assumption); (case hd => ktr_room); (case hu => ktr_room); (case G => ktr_rel); (case x0 => first | assumption | ((repeat refine len_step (by assumption) ?_ (by rfl)); exact Nat.le_of_ble_eq_true (by rfl)) | omega); (case x1 => first | assumption | ((repeat refine len_step (by assumption) ?_ (by rfl)); exact Nat.le_of_ble_eq_true (by rfl)) | omega); k_whole); (try dsimp only); intro _ _ _ _ _ _ _ _ _; (try k_sweep))) | ((with_reducible show wpAny _ _ (call (Value.ref 557) _) _ _ _); (k_dflt (refine' c_rows ?B ?F ?X ?T ?hA ?hf ?hke ?hH ?hd ?hu ?G ?N ?x0 ?x1 ?x2 ?x3 ?_; (case N => tb_rel); (case B => k_asm); (case F => k_asm); (case X => k_asm); (case T => k_asm); (case hA => tb_start); (case hf => tb_start); (case hke => tb_start); (case hH => assumption); (case hd => ktr_room); (case hu => ktr_room); (case G => ktr_rel); (case x0 => walk_at "my_mem"); (case x1 => walk_at "my_cv"); (case x2 => assumption); (case x3 => assumption); k_whole); (try dsimp only); intro _ _ _ _; (try k_sweep)))) | ((with_reducible show wpAny _ _ (call (Value.builtin "len") [Value.ref _]) _ _ _); k_dflt (refine' my_len ?k1 ?k2 ?k3 ?_; (case k1 => k_asm); (case k2 => walk_at "my_mem"); (case k3 => omega); k_whole); intro _) | ((with_reducible show wpAny _ _ (subscriptTail _ _ (Value.ref _) (Value.str _ _)) _ _ _); k_dflt (refine' kda_item (knd := PySem.strKind _ _) ?a ?b ?c (strKind_is _ _ _ _) ?d ?_; (case a => k_asm); (case b => walk_at "my_mem"); (case c => assumption); (case d => first | assumption | rfl); k_whole)) | ((with_reducible show wpAny _ _ (compareOp .NotEq (.ref _) (.ref _)) _ _ _); refine Hold.out ?_) | walk1 | (dsimp only; walk1) | (leave1; walk_say "STEP leave1"; try dsimp only) | fail "no step")
    refine Hold.mk ?_
    rename_i h4 tk4 D4 vs4 n4 hi4 G4 F4 N4
    refine LCg.CompSrc.ledger (its := pvs.toArray) (k := kp) hH (by assumption) (by assumption) (show (pa, W.listOf pvs.toArray kp) ∈ _ by walk_at "my_mem") (by rw [sizeLine_eq, List.size_toArray]; omega) (fun g => ?_)
    rw [show pvs.toArray.size = fp.length by rw [List.size_toArray, fpl]]
    refine rest_all ?turn ?fin
    case turn =>
      intro i y v I' oI C oC D ys m₂ h'' tk'' E' Rr hy hv ho' hx F5 N5 off ne hR
      obtain ⟨pq, po, kvs, rfl, hq1, hq2, hq3⟩ := fpa i y v hy (by simpa using hv)
      repeat' (first | (k_unfold; (try dsimp only)) | ((with_reducible show wpAny _ _ (call (Value.ref _) _) _ _ _); first | ((with_reducible show wpAny _ _ (call (Value.ref 557) _) _ _ _); refine Hold.out ?_) | ((with_reducible show wpAny _ _ (call (Value.ref 524) _) _ _ _); (k_dflt (refine' c_choices ?B ?F ?X ?T ?hA ?hf ?hke ?hH ?hd ?hu ?G ?N ?x0 ?x1 ?_; (case N => tb_rel); (case B => k_asm); (case F => k_asm); (case X => k_asm); (case T => k_asm); (case hA => tb_start); (case hf => tb_start); (case hke => tb_start); (case hH => assumption); (case hd => ktr_room); (case hu => ktr_room); (case G => ktr_rel); (case x0 => first | assumption | ((repeat refine len_step (by assumption) ?_ (by rfl)); exact Nat.le_of_ble_eq_true (by rfl)) | omega); (case x1 => first | assumption | ((repeat refine len_step (by assumption) ?_ (by rfl)); exact Nat.le_of_ble_eq_true (by rfl)) | omega); k_whole); (try dsimp only); intro _ _ _ _ _ _ _ _ _; (try k_sweep))) | ((with_reducible show wpAny _ _ (call (Value.ref 531) _) _ _ _); (k_dflt (refine' c_envs ?B ?F ?X ?T ?hA ?hf ?hke ?hH ?hd ?hu ?G ?N ?x0 ?x1 ?_; (case N => tb_rel); (case B => k_asm); (case F => k_asm); (case X => k_asm); (case T => k_asm); (case hA => tb_start); (case hf => tb_start); (case hke => tb_start); (case hH => assumption); (case hd => ktr_room); (case hu => ktr_room); (case G => ktr_rel); (case x0 => first | assumption | ((repeat refine len_step (by assumption) ?_ (by rfl)); exact Nat.le_of_ble_eq_true (by rfl)) | omega); (case x1 => first | assumption | ((repeat refine len_step (by assumption) ?_ (by rfl)); exact Nat.le_of_ble_eq_true (by rfl)) | omega); k_whole); (try dsimp only); intro _ _ _ _ _ _ _ _ _; (try k_sweep))) | ((with_reducible show wpAny _ _ (call (Value.ref 557) _) _ _ _); (k_dflt (refine' c_rows ?B ?F ?X ?T ?hA ?hf ?hke ?hH ?hd ?hu ?G ?N ?x0 ?x1 ?x2 ?x3 ?_; (case N => tb_rel); (case B => k_asm); (case F => k_asm); (case X => k_asm); (case T => k_asm); (case hA => tb_start); (case hf => tb_start); (case hke => tb_start); (case hH => assumption); (case hd => ktr_room); (case hu => ktr_room); (case G => ktr_rel); (case x0 => walk_at "my_mem"); (case x1 => walk_at "my_cv"); (case x2 => assumption); (case x3 => assumption); k_whole); (try dsimp only); intro _ _ _ _; (try k_sweep)))) | ((with_reducible show wpAny _ _ (call (Value.builtin "len") [Value.ref _]) _ _ _); k_dflt (refine' my_len ?k1 ?k2 ?k3 ?_; (case k1 => k_asm); (case k2 => walk_at "my_mem"); (case k3 => omega); k_whole); intro _) | ((with_reducible show wpAny _ _ (subscriptTail _ _ (Value.ref _) (Value.str _ _)) _ _ _); k_dflt (refine' kda_item (knd := PySem.strKind _ _) ?a ?b ?c (strKind_is _ _ _ _) ?d ?_; (case a => k_asm); (case b => walk_at "my_mem"); (case c => assumption); (case d => first | assumption | rfl); k_whole)) | ((with_reducible show wpAny _ _ (compareOp .NotEq (.ref _) (.ref _)) _ _ _); refine Hold.out ?_) | walk1 | (dsimp only; walk1) | (leave1; walk_say "STEP leave1"; try dsimp only) | fail "no step")
      refine Hold.mk ?_
      exact LCg.CompEnd.intro (by assumption) (by assumption) _ (fun p hp => hp) off (.inr ⟨_, (show (pa, W.listOf pvs.toArray kp) ∈ _ by walk_at "my_mem"), rfl, _, rfl⟩) hR
    case fin =>
      intro D5 h5 tk5 F5 N5 o5
      simp only [LCg.Off1] at o5
      repeat' (first | (k_unfold; (try dsimp only)) | ((with_reducible show wpAny _ _ (call (Value.ref _) _) _ _ _); first | ((with_reducible show wpAny _ _ (call (Value.ref 557) _) _ _ _); refine Hold.out ?_) | ((with_reducible show wpAny _ _ (call (Value.ref 524) _) _ _ _); (k_dflt (refine' c_choices ?B ?F ?X ?T ?hA ?hf ?hke ?hH ?hd ?hu ?G ?N ?x0 ?x1 ?_; (case N => tb_rel); (case B => k_asm); (case F => k_asm); (case X => k_asm); (case T => k_asm); (case hA => tb_start); (case hf => tb_start); (case hke => tb_start); (case hH => assumption); (case hd => ktr_room); (case hu => ktr_room); (case G => ktr_rel); (case x0 => first | assumption | ((repeat refine len_step (by assumption) ?_ (by rfl)); exact Nat.le_of_ble_eq_true (by rfl)) | omega); (case x1 => first | assumption | ((repeat refine len_step (by assumption) ?_ (by rfl)); exact Nat.le_of_ble_eq_true (by rfl)) | omega); k_whole); (try dsimp only); intro _ _ _ _ _ _ _ _ _; (try k_sweep))) | ((with_reducible show wpAny _ _ (call (Value.ref 531) _) _ _ _); (k_dflt (refine' c_envs ?B ?F ?X ?T ?hA ?hf ?hke ?hH ?hd ?hu ?G ?N ?x0 ?x1 ?_; (case N => tb_rel); (case B => k_asm); (case F => k_asm); (case X => k_asm); (case T => k_asm); (case hA => tb_start); (case hf => tb_start); (case hke => tb_start); (case hH => assumption); (case hd => ktr_room); (case hu => ktr_room); (case G => ktr_rel); (case x0 => first | assumption | ((repeat refine len_step (by assumption) ?_ (by rfl)); exact Nat.le_of_ble_eq_true (by rfl)) | omega); (case x1 => first | assumption | ((repeat refine len_step (by assumption) ?_ (by rfl)); exact Nat.le_of_ble_eq_true (by rfl)) | omega); k_whole); (try dsimp only); intro _ _ _ _ _ _ _ _ _; (try k_sweep))) | ((with_reducible show wpAny _ _ (call (Value.ref 557) _) _ _ _); (k_dflt (refine' c_rows ?B ?F ?X ?T ?hA ?hf ?hke ?hH ?hd ?hu ?G ?N ?x0 ?x1 ?x2 ?x3 ?_; (case N => tb_rel); (case B => k_asm); (case F => k_asm); (case X => k_asm); (case T => k_asm); (case hA => tb_start); (case hf => tb_start); (case hke => tb_start); (case hH => assumption); (case hd => ktr_room); (case hu => ktr_room); (case G => ktr_rel); (case x0 => walk_at "my_mem"); (case x1 => walk_at "my_cv"); (case x2 => assumption); (case x3 => assumption); k_whole); (try dsimp only); intro _ _ _ _; (try k_sweep)))) | ((with_reducible show wpAny _ _ (call (Value.builtin "len") [Value.ref _]) _ _ _); k_dflt (refine' my_len ?k1 ?k2 ?k3 ?_; (case k1 => k_asm); (case k2 => walk_at "my_mem"); (case k3 => omega); k_whole); intro _) | ((with_reducible show wpAny _ _ (subscriptTail _ _ (Value.ref _) (Value.str _ _)) _ _ _); k_dflt (refine' kda_item (knd := PySem.strKind _ _) ?a ?b ?c (strKind_is _ _ _ _) ?d ?_; (case a => k_asm); (case b => walk_at "my_mem"); (case c => assumption); (case d => first | assumption | rfl); k_whole)) | ((with_reducible show wpAny _ _ (compareOp .NotEq (.ref _) (.ref _)) _ _ _); refine Hold.out ?_) | walk1 | (dsimp only; walk1) | (leave1; walk_say "STEP leave1"; try dsimp only) | fail "no step")
      refine Hold.mk ?_
      refine' ints_ne ?N ?a ?i ?b ?j ?u ?_; (case N => assumption); (case a => walk_at "my_mem"); (case i => assumption); (case b => exact .head _); (case j => assumption); (case u => (show _ < _); k_units)
      repeat' (first | (k_unfold; (try dsimp only)) | ((with_reducible show wpAny _ _ (call (Value.ref _) _) _ _ _); first | ((with_reducible show wpAny _ _ (call (Value.ref 557) _) _ _ _); refine Hold.out ?_) | ((with_reducible show wpAny _ _ (call (Value.ref 524) _) _ _ _); (k_dflt (refine' c_choices ?B ?F ?X ?T ?hA ?hf ?hke ?hH ?hd ?hu ?G ?N ?x0 ?x1 ?_; (case N => tb_rel); (case B => k_asm); (case F => k_asm); (case X => k_asm); (case T => k_asm); (case hA => tb_start); (case hf => tb_start); (case hke => tb_start); (case hH => assumption); (case hd => ktr_room); (case hu => ktr_room); (case G => ktr_rel); (case x0 => first | assumption | ((repeat refine len_step (by assumption) ?_ (by rfl)); exact Nat.le_of_ble_eq_true (by rfl)) | omega); (case x1 => first | assumption | ((repeat refine len_step (by assumption) ?_ (by rfl)); exact Nat.le_of_ble_eq_true (by rfl)) | omega); k_whole); (try dsimp only); intro _ _ _ _ _ _ _ _ _; (try k_sweep))) | ((with_reducible show wpAny _ _ (call (Value.ref 531) _) _ _ _); (k_dflt (refine' c_envs ?B ?F ?X ?T ?hA ?hf ?hke ?hH ?hd ?hu ?G ?N ?x0 ?x1 ?_; (case N => tb_rel); (case B => k_asm); (case F => k_asm); (case X => k_asm); (case T => k_asm); (case hA => tb_start); (case hf => tb_start); (case hke => tb_start); (case hH => assumption); (case hd => ktr_room); (case hu => ktr_room); (case G => ktr_rel); (case x0 => first | assumption | ((repeat refine len_step (by assumption) ?_ (by rfl)); exact Nat.le_of_ble_eq_true (by rfl)) | omega); (case x1 => first | assumption | ((repeat refine len_step (by assumption) ?_ (by rfl)); exact Nat.le_of_ble_eq_true (by rfl)) | omega); k_whole); (try dsimp only); intro _ _ _ _ _ _ _ _ _; (try k_sweep))) | ((with_reducible show wpAny _ _ (call (Value.ref 557) _) _ _ _); (k_dflt (refine' c_rows ?B ?F ?X ?T ?hA ?hf ?hke ?hH ?hd ?hu ?G ?N ?x0 ?x1 ?x2 ?x3 ?_; (case N => tb_rel); (case B => k_asm); (case F => k_asm); (case X => k_asm); (case T => k_asm); (case hA => tb_start); (case hf => tb_start); (case hke => tb_start); (case hH => assumption); (case hd => ktr_room); (case hu => ktr_room); (case G => ktr_rel); (case x0 => walk_at "my_mem"); (case x1 => walk_at "my_cv"); (case x2 => assumption); (case x3 => assumption); k_whole); (try dsimp only); intro _ _ _ _; (try k_sweep)))) | ((with_reducible show wpAny _ _ (call (Value.builtin "len") [Value.ref _]) _ _ _); k_dflt (refine' my_len ?k1 ?k2 ?k3 ?_; (case k1 => k_asm); (case k2 => walk_at "my_mem"); (case k3 => omega); k_whole); intro _) | ((with_reducible show wpAny _ _ (subscriptTail _ _ (Value.ref _) (Value.str _ _)) _ _ _); k_dflt (refine' kda_item (knd := PySem.strKind _ _) ?a ?b ?c (strKind_is _ _ _ _) ?d ?_; (case a => k_asm); (case b => walk_at "my_mem"); (case c => assumption); (case d => first | assumption | rfl); k_whole)) | ((with_reducible show wpAny _ _ (compareOp .NotEq (.ref _) (.ref _)) _ _ _); refine Hold.out ?_) | walk1 | (dsimp only; walk1) | (leave1; walk_say "STEP leave1"; try dsimp only) | fail "no step")
      refine Hold.mk ?_
      have N9 := News.tl9 (News.tail9' N5) (fun p hp => .tail _ (.tail _ (.tail _ hp)))
      refine' listS (n := kp) (lo := W.listOf pvs.toArray kp) (vs := pvs) (M2 (Str.ofString "spot") (Str.ofString "size_of") (fun (q : Unit × Option Value × Option Value) => q.2.1) (fun q => q.2.2) _) (fun q => ((mm, instObj 534 md) :: (md, dictOf (mD w kt sy rows st xl ro ba t1 t2 t3 tb0 tmd tms cp tcp e te b tb) 18) :: (st, instObj 374 sd) :: (sd, dictOf (sD w ks sy hp sk tr ts1 hbv thb bbv tbb) 7) :: (sk, W.listOf (List.toArray stk) nk) :: (hp, W.listOf (List.toArray hpv) nh) :: (tr, W.listOf #[] nt) :: (xl, W.listOf (List.toArray xs) nx) :: (rows, W.listOf (List.toArray rws) nr) :: tl)) (fun i q => True) ((), _, _) hH (by assumption) N9 (mem_tl9 hpa) rfl rfl (M2_start rfl rfl) rfl (fun _ => mem_tl9 hpa) trivial ?turn2 ?done
      case turn2 =>
        rintro i ⟨⟨⟩, u1, u2⟩ v h6 tk6 I it hi6 _ ho hI F6 N6
        obtain ⟨pq, p, rfl, hpi, ⟨a1, a2, a3, a4, a5⟩⟩ := hpw.at hi6
        obtain ⟨⟨tn, okn⟩, okg, ⟨tf, okf⟩, okr, okf3, okg3⟩ := hpt p (List.mem_of_getElem? hpi)
        k_lt hI
        clear N9 N5 N4
        repeat' (first | (k_unfold; (try dsimp only)) | ((with_reducible show wpAny _ _ (call (Value.ref _) _) _ _ _); first | ((with_reducible show wpAny _ _ (call (Value.ref 557) _) _ _ _); refine Hold.out ?_) | ((with_reducible show wpAny _ _ (call (Value.ref 524) _) _ _ _); (k_dflt (refine' c_choices ?B ?F ?X ?T ?hA ?hf ?hke ?hH ?hd ?hu ?G ?N ?x0 ?x1 ?_; (case N => tb_rel); (case B => k_asm); (case F => k_asm); (case X => k_asm); (case T => k_asm); (case hA => tb_start); (case hf => tb_start); (case hke => tb_start); (case hH => assumption); (case hd => ktr_room); (case hu => ktr_room); (case G => ktr_rel); (case x0 => first | assumption | ((repeat refine len_step (by assumption) ?_ (by rfl)); exact Nat.le_of_ble_eq_true (by rfl)) | omega); (case x1 => first | assumption | ((repeat refine len_step (by assumption) ?_ (by rfl)); exact Nat.le_of_ble_eq_true (by rfl)) | omega); k_whole); (try dsimp only); intro _ _ _ _ _ _ _ _ _; (try k_sweep))) | ((with_reducible show wpAny _ _ (call (Value.ref 531) _) _ _ _); (k_dflt (refine' c_envs ?B ?F ?X ?T ?hA ?hf ?hke ?hH ?hd ?hu ?G ?N ?x0 ?x1 ?_; (case N => tb_rel); (case B => k_asm); (case F => k_asm); (case X => k_asm); (case T => k_asm); (case hA => tb_start); (case hf => tb_start); (case hke => tb_start); (case hH => assumption); (case hd => ktr_room); (case hu => ktr_room); (case G => ktr_rel); (case x0 => first | assumption | ((repeat refine len_step (by assumption) ?_ (by rfl)); exact Nat.le_of_ble_eq_true (by rfl)) | omega); (case x1 => first | assumption | ((repeat refine len_step (by assumption) ?_ (by rfl)); exact Nat.le_of_ble_eq_true (by rfl)) | omega); k_whole); (try dsimp only); intro _ _ _ _ _ _ _ _ _; (try k_sweep))) | ((with_reducible show wpAny _ _ (call (Value.ref 557) _) _ _ _); (k_dflt (refine' c_rows ?B ?F ?X ?T ?hA ?hf ?hke ?hH ?hd ?hu ?G ?N ?x0 ?x1 ?x2 ?x3 ?_; (case N => tb_rel); (case B => k_asm); (case F => k_asm); (case X => k_asm); (case T => k_asm); (case hA => tb_start); (case hf => tb_start); (case hke => tb_start); (case hH => assumption); (case hd => ktr_room); (case hu => ktr_room); (case G => ktr_rel); (case x0 => walk_at "my_mem"); (case x1 => walk_at "my_cv"); (case x2 => assumption); (case x3 => assumption); k_whole); (try dsimp only); intro _ _ _ _; (try k_sweep)))) | ((with_reducible show wpAny _ _ (call (Value.builtin "len") [Value.ref _]) _ _ _); k_dflt (refine' my_len ?k1 ?k2 ?k3 ?_; (case k1 => k_asm); (case k2 => walk_at "my_mem"); (case k3 => omega); k_whole); intro _) | ((with_reducible show wpAny _ _ (subscriptTail _ _ (Value.ref _) (Value.str _ _)) _ _ _); k_dflt (refine' kda_item (knd := PySem.strKind _ _) ?a ?b ?c (strKind_is _ _ _ _) ?d ?_; (case a => k_asm); (case b => walk_at "my_mem"); (case c => assumption); (case d => first | assumption | rfl); k_whole)) | ((with_reducible show wpAny _ _ (compareOp .NotEq (.ref _) (.ref _)) _ _ _); refine Hold.out ?_) | walk1 | (dsimp only; walk1) | (leave1; walk_say "STEP leave1"; try dsimp only) | fail "no step")
        all_goals try (exfalso; rename _ ≠ _ => hne; exact hne rfl)
        refine Hold.mk ?_
        (try dsimp only)
        k_dflt (refine' my_ne_same ?N ?a ?b ?u ?_; (case N => assumption); (case a => exact .head _); (case b => walk_at "my_mem"); (case u => (show _ < _); k_units); k_whole)
        repeat' (first | (k_unfold; (try dsimp only)) | ((with_reducible show wpAny _ _ (call (Value.ref _) _) _ _ _); first | ((with_reducible show wpAny _ _ (call (Value.ref 557) _) _ _ _); refine Hold.out ?_) | ((with_reducible show wpAny _ _ (call (Value.ref 524) _) _ _ _); (k_dflt (refine' c_choices ?B ?F ?X ?T ?hA ?hf ?hke ?hH ?hd ?hu ?G ?N ?x0 ?x1 ?_; (case N => tb_rel); (case B => k_asm); (case F => k_asm); (case X => k_asm); (case T => k_asm); (case hA => tb_start); (case hf => tb_start); (case hke => tb_start); (case hH => assumption); (case hd => ktr_room); (case hu => ktr_room); (case G => ktr_rel); (case x0 => first | assumption | ((repeat refine len_step (by assumption) ?_ (by rfl)); exact Nat.le_of_ble_eq_true (by rfl)) | omega); (case x1 => first | assumption | ((repeat refine len_step (by assumption) ?_ (by rfl)); exact Nat.le_of_ble_eq_true (by rfl)) | omega); k_whole); (try dsimp only); intro _ _ _ _ _ _ _ _ _; (try k_sweep))) | ((with_reducible show wpAny _ _ (call (Value.ref 531) _) _ _ _); (k_dflt (refine' c_envs ?B ?F ?X ?T ?hA ?hf ?hke ?hH ?hd ?hu ?G ?N ?x0 ?x1 ?_; (case N => tb_rel); (case B => k_asm); (case F => k_asm); (case X => k_asm); (case T => k_asm); (case hA => tb_start); (case hf => tb_start); (case hke => tb_start); (case hH => assumption); (case hd => ktr_room); (case hu => ktr_room); (case G => ktr_rel); (case x0 => first | assumption | ((repeat refine len_step (by assumption) ?_ (by rfl)); exact Nat.le_of_ble_eq_true (by rfl)) | omega); (case x1 => first | assumption | ((repeat refine len_step (by assumption) ?_ (by rfl)); exact Nat.le_of_ble_eq_true (by rfl)) | omega); k_whole); (try dsimp only); intro _ _ _ _ _ _ _ _ _; (try k_sweep))) | ((with_reducible show wpAny _ _ (call (Value.ref 557) _) _ _ _); (k_dflt (refine' c_rows ?B ?F ?X ?T ?hA ?hf ?hke ?hH ?hd ?hu ?G ?N ?x0 ?x1 ?x2 ?x3 ?_; (case N => tb_rel); (case B => k_asm); (case F => k_asm); (case X => k_asm); (case T => k_asm); (case hA => tb_start); (case hf => tb_start); (case hke => tb_start); (case hH => assumption); (case hd => ktr_room); (case hu => ktr_room); (case G => ktr_rel); (case x0 => walk_at "my_mem"); (case x1 => walk_at "my_cv"); (case x2 => assumption); (case x3 => assumption); k_whole); (try dsimp only); intro _ _ _ _; (try k_sweep)))) | ((with_reducible show wpAny _ _ (call (Value.builtin "len") [Value.ref _]) _ _ _); k_dflt (refine' my_len ?k1 ?k2 ?k3 ?_; (case k1 => k_asm); (case k2 => walk_at "my_mem"); (case k3 => omega); k_whole); intro _) | ((with_reducible show wpAny _ _ (subscriptTail _ _ (Value.ref _) (Value.str _ _)) _ _ _); k_dflt (refine' kda_item (knd := PySem.strKind _ _) ?a ?b ?c (strKind_is _ _ _ _) ?d ?_; (case a => k_asm); (case b => walk_at "my_mem"); (case c => assumption); (case d => first | assumption | rfl); k_whole)) | ((with_reducible show wpAny _ _ (compareOp .NotEq (.ref _) (.ref _)) _ _ _); refine Hold.out ?_) | walk1 | (dsimp only; walk1) | (leave1; walk_say "STEP leave1"; try dsimp only) | fail "no step")
        all_goals try (exfalso; rename _ ≠ _ => hne; exact hne rfl)
        refine Hold.mk ?_
        (try dsimp only)
        rename News _ _ _ _ => N7
        have N8 := News.tail9' N7
        clear N7
        (k_dflt (refine' c_rows ?B ?F ?X ?T ?hA ?hf ?hke ?hH ?hd ?hu ?G ?N ?x0 ?x1 ?x2 ?x3 ?_; (case N => tb_rel); (case B => k_asm); (case F => k_asm); (case X => k_asm); (case T => k_asm); (case hA => tb_start); (case hf => tb_start); (case hke => tb_start); (case hH => assumption); (case hd => ktr_room); (case hu => ktr_room); (case G => ktr_rel); (case x0 => walk_at "my_mem"); (case x1 => walk_at "my_cv"); (case x2 => assumption); (case x3 => assumption); k_whole); (try dsimp only); intro h8 tk8 F8 N9; (try k_sweep))
        repeat' (first | (k_unfold; (try dsimp only)) | ((with_reducible show wpAny _ _ (call (Value.ref _) _) _ _ _); first | ((with_reducible show wpAny _ _ (call (Value.ref 557) _) _ _ _); refine Hold.out ?_) | ((with_reducible show wpAny _ _ (call (Value.ref 524) _) _ _ _); (k_dflt (refine' c_choices ?B ?F ?X ?T ?hA ?hf ?hke ?hH ?hd ?hu ?G ?N ?x0 ?x1 ?_; (case N => tb_rel); (case B => k_asm); (case F => k_asm); (case X => k_asm); (case T => k_asm); (case hA => tb_start); (case hf => tb_start); (case hke => tb_start); (case hH => assumption); (case hd => ktr_room); (case hu => ktr_room); (case G => ktr_rel); (case x0 => first | assumption | ((repeat refine len_step (by assumption) ?_ (by rfl)); exact Nat.le_of_ble_eq_true (by rfl)) | omega); (case x1 => first | assumption | ((repeat refine len_step (by assumption) ?_ (by rfl)); exact Nat.le_of_ble_eq_true (by rfl)) | omega); k_whole); (try dsimp only); intro _ _ _ _ _ _ _ _ _; (try k_sweep))) | ((with_reducible show wpAny _ _ (call (Value.ref 531) _) _ _ _); (k_dflt (refine' c_envs ?B ?F ?X ?T ?hA ?hf ?hke ?hH ?hd ?hu ?G ?N ?x0 ?x1 ?_; (case N => tb_rel); (case B => k_asm); (case F => k_asm); (case X => k_asm); (case T => k_asm); (case hA => tb_start); (case hf => tb_start); (case hke => tb_start); (case hH => assumption); (case hd => ktr_room); (case hu => ktr_room); (case G => ktr_rel); (case x0 => first | assumption | ((repeat refine len_step (by assumption) ?_ (by rfl)); exact Nat.le_of_ble_eq_true (by rfl)) | omega); (case x1 => first | assumption | ((repeat refine len_step (by assumption) ?_ (by rfl)); exact Nat.le_of_ble_eq_true (by rfl)) | omega); k_whole); (try dsimp only); intro _ _ _ _ _ _ _ _ _; (try k_sweep))) | ((with_reducible show wpAny _ _ (call (Value.ref 557) _) _ _ _); (k_dflt (refine' c_rows ?B ?F ?X ?T ?hA ?hf ?hke ?hH ?hd ?hu ?G ?N ?x0 ?x1 ?x2 ?x3 ?_; (case N => tb_rel); (case B => k_asm); (case F => k_asm); (case X => k_asm); (case T => k_asm); (case hA => tb_start); (case hf => tb_start); (case hke => tb_start); (case hH => assumption); (case hd => ktr_room); (case hu => ktr_room); (case G => ktr_rel); (case x0 => walk_at "my_mem"); (case x1 => walk_at "my_cv"); (case x2 => assumption); (case x3 => assumption); k_whole); (try dsimp only); intro _ _ _ _; (try k_sweep)))) | ((with_reducible show wpAny _ _ (call (Value.builtin "len") [Value.ref _]) _ _ _); k_dflt (refine' my_len ?k1 ?k2 ?k3 ?_; (case k1 => k_asm); (case k2 => walk_at "my_mem"); (case k3 => omega); k_whole); intro _) | ((with_reducible show wpAny _ _ (subscriptTail _ _ (Value.ref _) (Value.str _ _)) _ _ _); k_dflt (refine' kda_item (knd := PySem.strKind _ _) ?a ?b ?c (strKind_is _ _ _ _) ?d ?_; (case a => k_asm); (case b => walk_at "my_mem"); (case c => assumption); (case d => first | assumption | rfl); k_whole)) | ((with_reducible show wpAny _ _ (compareOp .NotEq (.ref _) (.ref _)) _ _ _); refine Hold.out ?_) | walk1 | (dsimp only; walk1) | (leave1; walk_say "STEP leave1"; try dsimp only) | fail "no step")
        exact LpEnd.M2i () (by assumption) (fun y h1 h2 h3 => by simp only [M2, if_neg h1, if_neg h2, if_neg h3]) (News.mv9 (by assumption)) ho trivial
      case done =>
        rintro ⟨⟨⟩, u1, u2⟩ u h6 tk6 _ F6 N6
        clear N9 N5 N4
        repeat' (first | (k_unfold; (try dsimp only)) | ((with_reducible show wpAny _ _ (call (Value.ref _) _) _ _ _); first | ((with_reducible show wpAny _ _ (call (Value.ref 557) _) _ _ _); refine Hold.out ?_) | ((with_reducible show wpAny _ _ (call (Value.ref 524) _) _ _ _); (k_dflt (refine' c_choices ?B ?F ?X ?T ?hA ?hf ?hke ?hH ?hd ?hu ?G ?N ?x0 ?x1 ?_; (case N => tb_rel); (case B => k_asm); (case F => k_asm); (case X => k_asm); (case T => k_asm); (case hA => tb_start); (case hf => tb_start); (case hke => tb_start); (case hH => assumption); (case hd => ktr_room); (case hu => ktr_room); (case G => ktr_rel); (case x0 => first | assumption | ((repeat refine len_step (by assumption) ?_ (by rfl)); exact Nat.le_of_ble_eq_true (by rfl)) | omega); (case x1 => first | assumption | ((repeat refine len_step (by assumption) ?_ (by rfl)); exact Nat.le_of_ble_eq_true (by rfl)) | omega); k_whole); (try dsimp only); intro _ _ _ _ _ _ _ _ _; (try k_sweep))) | ((with_reducible show wpAny _ _ (call (Value.ref 531) _) _ _ _); (k_dflt (refine' c_envs ?B ?F ?X ?T ?hA ?hf ?hke ?hH ?hd ?hu ?G ?N ?x0 ?x1 ?_; (case N => tb_rel); (case B => k_asm); (case F => k_asm); (case X => k_asm); (case T => k_asm); (case hA => tb_start); (case hf => tb_start); (case hke => tb_start); (case hH => assumption); (case hd => ktr_room); (case hu => ktr_room); (case G => ktr_rel); (case x0 => first | assumption | ((repeat refine len_step (by assumption) ?_ (by rfl)); exact Nat.le_of_ble_eq_true (by rfl)) | omega); (case x1 => first | assumption | ((repeat refine len_step (by assumption) ?_ (by rfl)); exact Nat.le_of_ble_eq_true (by rfl)) | omega); k_whole); (try dsimp only); intro _ _ _ _ _ _ _ _ _; (try k_sweep))) | ((with_reducible show wpAny _ _ (call (Value.ref 557) _) _ _ _); (k_dflt (refine' c_rows ?B ?F ?X ?T ?hA ?hf ?hke ?hH ?hd ?hu ?G ?N ?x0 ?x1 ?x2 ?x3 ?_; (case N => tb_rel); (case B => k_asm); (case F => k_asm); (case X => k_asm); (case T => k_asm); (case hA => tb_start); (case hf => tb_start); (case hke => tb_start); (case hH => assumption); (case hd => ktr_room); (case hu => ktr_room); (case G => ktr_rel); (case x0 => walk_at "my_mem"); (case x1 => walk_at "my_cv"); (case x2 => assumption); (case x3 => assumption); k_whole); (try dsimp only); intro _ _ _ _; (try k_sweep)))) | ((with_reducible show wpAny _ _ (call (Value.builtin "len") [Value.ref _]) _ _ _); k_dflt (refine' my_len ?k1 ?k2 ?k3 ?_; (case k1 => k_asm); (case k2 => walk_at "my_mem"); (case k3 => omega); k_whole); intro _) | ((with_reducible show wpAny _ _ (subscriptTail _ _ (Value.ref _) (Value.str _ _)) _ _ _); k_dflt (refine' kda_item (knd := PySem.strKind _ _) ?a ?b ?c (strKind_is _ _ _ _) ?d ?_; (case a => k_asm); (case b => walk_at "my_mem"); (case c => assumption); (case d => first | assumption | rfl); k_whole)) | ((with_reducible show wpAny _ _ (compareOp .NotEq (.ref _) (.ref _)) _ _ _); refine Hold.out ?_) | walk1 | (dsimp only; walk1) | (leave1; walk_say "STEP leave1"; try dsimp only) | fail "no step")
        refine' h _ _ ?kF ?kN; (case kF => assumption); (case kN => assumption)
end
end
-- P_law
section

def cend (c : Int × List Value) : Int := c.1 + 2 + (c.2.length : Int)
def pend (p : Pt) : Int := p.spot + (p.gv.length : Int) + 8
def RowSize (rws : List Value) (tl : List (Addr × Obj)) (cp z : Int) : Prop := ∃ r tz tc t0 n, At rws (cp - 1) (.ref r) ∧ (r, tupOf [.str "call" tc, .int 0 t0, .int z tz] n) ∈ tl
theorem RowSize.mono {rws rws' : List Value} {tl tl' : List (Addr × Obj)} {cp z : Int} (h : RowSize rws tl cp z) (h1 : ∀ k v, At rws k v → At rws' k v) (h2 : ∀ p ∈ tl, p ∈ tl') : RowSize rws' tl' cp z := by
  obtain ⟨r, tz, tc, t0, n, a, b⟩ := h
  exact ⟨r, tz, tc, t0, n, h1 _ _ a, h2 _ b⟩
def ChainL (stk rws : List Value) (tl : List (Addr × Obj)) : Int → Int → List (Int × List Value) → Prop
  | e, _, [] => e = -1
  | e, cp, c :: r => e = c.1 ∧ 0 ≤ c.1 ∧ RowSize rws tl cp (c.2.length : Int) ∧ RowIn stk c ∧ c.2.length ≤ 3 ∧ (∀ d ∈ r, cend d ≤ c.1) ∧ ∃ e' t cp' t', At stk c.1 (.int e' t) ∧ At stk (c.1 + 1) (.int cp' t') ∧ ChainL stk rws tl e' cp' r
def Sep (ch : List (Int × List Value)) (pts : List Pt) : Prop := ∀ c ∈ ch, ∀ p ∈ pts, cend c ≤ p.spot ∨ pend p ≤ c.1
/-- what one point's row of the stack holds: b' is the point below, e' the environment -/
structure PtRow (stk : List Value) (p : Pt) (e' b' : Int) : Prop where
  pos : 0 ≤ p.spot
  n : ∃ t, At stk p.spot (.int (p.gv.length : Int) t)
  g : ∀ (j : Nat) (v : Value), p.gv[j]? = some v → At stk (p.spot + 1 + (j : Int)) v
  g3 : p.gv.length ≤ 3
  x1 : ∃ t, At stk (p.spot + (p.gv.length : Int) + 1) (.int e' t)
  x2 : ∃ t, At stk (p.spot + (p.gv.length : Int) + 2) (.int p.cp t)
  x3 : ∃ t, At stk (p.spot + (p.gv.length : Int) + 3) (.int b' t)
  x4 : ∃ t, At stk (p.spot + (p.gv.length : Int) + 4) (.int p.fu t)
  x5 : ∃ t, At stk (p.spot + (p.gv.length : Int) + 5) (.int 0 t)
  x6 : ∃ t, At stk (p.spot + (p.gv.length : Int) + 6) (.int p.hl t)
  x7 : ∃ v, At stk (p.spot + (p.gv.length : Int) + 7) v
def PtsOK (stk rws : List Value) (tl : List (Addr × Obj)) : Int → Int → List Pt → Prop
  | b, _, [] => b = -1
  | b, bound, p :: r => b = p.spot ∧ 0 ≤ p.hl ∧ p.hl ≤ bound ∧ (∀ c ∈ p.ch, cend c ≤ p.spot) ∧ Sep p.ch r ∧ (∀ q ∈ r, pend q ≤ p.spot) ∧ ∃ e' b', PtRow stk p e' b' ∧ ChainL stk rws tl e' p.cp p.ch ∧ PtsOK stk rws tl b' p.hl r
theorem RowIn.frame {stk stk' : List Value} {v : Int} (hf : ∀ k x, k < v → At stk k x → At stk' k x) {c : Int × List Value} (hc : cend c ≤ v) (h : RowIn stk c) : RowIn stk' c := fun j x hj => by
  have hlt : j < c.2.length := (List.getElem?_eq_some_iff.mp hj).1
  unfold cend at hc
  exact hf _ _ (by omega) (h j x hj)
theorem cend_pos {c : Int × List Value} : c.1 + 2 ≤ cend c := by unfold cend; omega
theorem ChainL.frame {stk stk' rws rws' : List Value} {tl tl' : List (Addr × Obj)} {v : Int} (hf : ∀ k x, k < v → At stk k x → At stk' k x) (h1 : ∀ k v, At rws k v → At rws' k v) (h2 : ∀ p ∈ tl, p ∈ tl') :
    ∀ {ch : List (Int × List Value)} {e cp : Int}, ChainL stk rws tl e cp ch → (∀ c ∈ ch, cend c ≤ v) → ChainL stk' rws' tl' e cp ch
  | [], _, _, h, _ => h
  | c :: r, e, cp, h, hc => by
    obtain ⟨a1, a2, a3, a4, a5, a6, e', t, cp', t', a7, a8, a9⟩ := h
    have h0 := hc c (List.mem_cons_self ..)
    have h9 := cend_pos (c := c)
    exact ⟨a1, a2, a3.mono h1 h2, a4.frame hf h0, a5, a6, e', t, cp', t', hf _ _ (by omega) a7, hf _ _ (by omega) a8, ChainL.frame hf h1 h2 a9 (fun d hd => hc d (List.mem_cons_of_mem _ hd))⟩
theorem PtRow.frame {stk stk' : List Value} {v : Int} (hf : ∀ k x, k < v → At stk k x → At stk' k x) {p : Pt} {e' b' : Int} (hp : pend p ≤ v) (h : PtRow stk p e' b') : PtRow stk' p e' b' := by
  unfold pend at hp
  obtain ⟨h0, ⟨t, h1⟩, hg, h3, ⟨t1, y1⟩, ⟨t2, y2⟩, ⟨t3, y3⟩, ⟨t4, y4⟩, ⟨t5, y5⟩, ⟨t6, y6⟩, ⟨t7, y7⟩⟩ := h
  refine ⟨h0, ⟨t, hf _ _ (by omega) h1⟩, fun j x hj => ?_, h3, ⟨t1, hf _ _ (by omega) y1⟩, ⟨t2, hf _ _ (by omega) y2⟩, ⟨t3, hf _ _ (by omega) y3⟩, ⟨t4, hf _ _ (by omega) y4⟩, ⟨t5, hf _ _ (by omega) y5⟩, ⟨t6, hf _ _ (by omega) y6⟩, ⟨t7, hf _ _ (by omega) y7⟩⟩
  have hlt : j < p.gv.length := (List.getElem?_eq_some_iff.mp hj).1
  exact hf _ _ (by omega) (hg j x hj)
theorem PtsOK.frame {stk stk' rws rws' : List Value} {tl tl' : List (Addr × Obj)} {v : Int} (hf : ∀ k x, k < v → At stk k x → At stk' k x) (h1 : ∀ k v, At rws k v → At rws' k v) (h2 : ∀ p ∈ tl, p ∈ tl') :
    ∀ {pts : List Pt} {b bound bound' : Int}, PtsOK stk rws tl b bound pts → bound ≤ bound' → (∀ p ∈ pts, pend p ≤ v) → PtsOK stk' rws' tl' b bound' pts
  | [], _, _, _, h, _, _ => h
  | p :: r, b, bound, bound', h, hb, hp => by
    obtain ⟨a1, a2, a3, a4, a5, a6, e', b', a7, a8, a9⟩ := h
    have h0 := hp p (List.mem_cons_self ..)
    have h3 : p.spot ≤ v := by unfold pend at h0; omega
    exact ⟨a1, a2, by omega, a4, a5, a6, e', b', a7.frame hf h0, a8.frame hf h1 h2 (fun c hc => Int.le_trans (a4 c hc) h3), a9.frame hf h1 h2 (Int.le_refl _) (fun q hq => hp q (List.mem_cons_of_mem _ hq))⟩
end
-- P_law2
section

theorem ChainL.rows {stk rws : List Value} {tl : List (Addr × Obj)} : ∀ {ch : List (Int × List Value)} {e cp : Int}, ChainL stk rws tl e cp ch → ∀ c ∈ ch, RowIn stk c ∧ c.2.length ≤ 3
  | [], _, _, _, _, hc => nomatch hc
  | d :: r, e, cp, h, c, hc => by
    obtain ⟨a1, a2, a3, a4, a5, a6, e', t, cp', t', a7, a8, a9⟩ := h
    rcases List.mem_cons.mp hc with rfl | hc
    · exact ⟨a4, a5⟩
    · exact a9.rows c hc
theorem ChainL.links {stk rws : List Value} {tl : List (Addr × Obj)} : ∀ {ch : List (Int × List Value)} {e cp : Int}, ChainL stk rws tl e cp ch → Links (At stk) e (ch.map (·.1))
  | [], e, _, h => by
    have h' : e = -1 := h
    show e < 0
    omega
  | d :: r, e, cp, h => by
    obtain ⟨a1, a2, a3, a4, a5, a6, e', t, cp', t', a7, a8, a9⟩ := h
    exact ⟨a1, a2, e', t, a7, a9.links⟩
theorem PtRow.ok {stk rws : List Value} {tl : List (Addr × Obj)} {p : Pt} {e' b' : Int} (h : PtRow stk p e' b') (hc : ChainL stk rws tl e' p.cp p.ch) : PtOK stk p :=
  ⟨h.n, h.g, h.x4, fun c hm => (hc.rows c hm).1, fun c hm => (hc.rows c hm).2, h.g3⟩
theorem PtsOK.links {stk rws : List Value} {tl : List (Addr × Obj)} : ∀ {pts : List Pt} {b bound : Int}, PtsOK stk rws tl b bound pts → Links (fun x v => ∃ c tc, At stk x (.int c tc) ∧ At stk (x + c + 3) v) b (pts.map (·.spot))
  | [], b, _, h => by
    have h' : b = -1 := h
    show b < 0
    omega
  | p :: r, b, bound, h => by
    obtain ⟨a1, a2, a3, a4, a5, a6, e', b', a7, a8, a9⟩ := h
    obtain ⟨t, hn⟩ := a7.n
    obtain ⟨t3, h3⟩ := a7.x3
    exact ⟨a1, a7.pos, b', t3, ⟨_, t, hn, h3⟩, a9.links⟩
theorem PtsOK.all {stk rws : List Value} {tl : List (Addr × Obj)} : ∀ {pts : List Pt} {b bound : Int}, PtsOK stk rws tl b bound pts → ∀ p ∈ pts, PtOK stk p
  | [], _, _, _, _, hp => nomatch hp
  | q :: r, b, bound, h, p, hp => by
    obtain ⟨a1, a2, a3, a4, a5, a6, e', b', a7, a8, a9⟩ := h
    rcases List.mem_cons.mp hp with rfl | hp
    · exact a7.ok a8
    · exact a9.all p hp
theorem At.lt {l : List Value} {k : Int} {v : Value} (h : At l k v) : k + 1 ≤ l.length := by
  have h1 := (List.getElem?_eq_some_iff.mp h.2.2).1
  have h0 := h.1
  omega
theorem ChainL.ends {stk rws : List Value} {tl : List (Addr × Obj)} {c : Int × List Value} {r : List (Int × List Value)} {e cp : Int} (h : ChainL stk rws tl e cp (c :: r)) : (∀ d ∈ c :: r, cend d ≤ cend c) ∧ cend c ≤ stk.length := by
  obtain ⟨a1, a2, a3, a4, a5, a6, e', t, cp', t', a7, a8, a9⟩ := h
  refine ⟨fun d hd => ?_, ?_⟩
  · rcases List.mem_cons.mp hd with rfl | hd
    · exact Int.le_refl _
    · have := a6 d hd
      have := cend_pos (c := c)
      omega
  · have h1 := a8.lt
    unfold cend
    by_cases e0 : c.2.length = 0
    · rw [e0]; omega
    · have h2 := (a4 (c.2.length - 1) (c.2[c.2.length - 1]'(by omega)) (by simp)).lt
      omega
theorem PtsOK.ends {stk rws : List Value} {tl : List (Addr × Obj)} {p : Pt} {r : List Pt} {b bound : Int} (h : PtsOK stk rws tl b bound (p :: r)) : (∀ q ∈ p :: r, pend q ≤ pend p) ∧ pend p ≤ stk.length := by
  obtain ⟨a1, a2, a3, a4, a5, a6, e', b', a7, a8, a9⟩ := h
  refine ⟨fun q hq => ?_, ?_⟩
  · rcases List.mem_cons.mp hq with rfl | hq
    · exact Int.le_refl _
    · have := a6 q hq
      unfold pend at this ⊢
      omega
  · obtain ⟨v, h7⟩ := a7.x7
    have := h7.lt
    unfold pend; omega
theorem PtsOK.chends {stk rws : List Value} {tl : List (Addr × Obj)} : ∀ {pts : List Pt} {b bound : Int}, PtsOK stk rws tl b bound pts → ∀ p ∈ pts, ∀ c ∈ p.ch, cend c ≤ pend p
  | [], _, _, _, _, hp => nomatch hp
  | q :: r, b, bound, h, p, hp => by
    obtain ⟨a1, a2, a3, a4, a5, a6, e', b', a7, a8, a9⟩ := h
    rcases List.mem_cons.mp hp with rfl | hp
    · intro c hc
      have := a4 c hc
      unfold pend; omega
    · exact a9.chends p hp
theorem top_ok {stk rws : List Value} {tl : List (Addr × Obj)} {e b cp bound : Int} {ch : List (Int × List Value)} {pts : List Pt} (hc : ChainL stk rws tl e cp ch) (hp : PtsOK stk rws tl b bound pts) (hs : Sep ch pts) :
    ∃ v, TopIs e b cp stk rws tl v ∧ 0 ≤ v ∧ v ≤ stk.length ∧ (∀ c ∈ ch, cend c ≤ v) ∧ (∀ p ∈ pts, pend p ≤ v) := by
  cases ch with
  | nil =>
    have he : e = -1 := hc
    cases pts with
    | nil =>
      have hb : b = -1 := hp
      · exact ⟨0, .inr (.inr ⟨by omega, by omega, rfl⟩), by omega, by omega, (fun _ h => nomatch h), (fun _ h => nomatch h)⟩
    | cons p r =>
      have hends := hp.ends
      obtain ⟨a1, a2, a3, a4, a5, a6, e', b', a7, a8, a9⟩ := hp
      obtain ⟨t, hn⟩ := a7.n
      have h0 := a7.pos
      refine ⟨pend p, .inr (.inl ⟨by omega, by omega, _, t, a1 ▸ hn, by unfold pend; omega⟩), by unfold pend; omega, hends.2, (fun _ h => nomatch h), hends.1⟩
  | cons c r =>
    have cends := hc.ends
    have c0 := cend_pos (c := c)
    obtain ⟨a1, a2, a3, a4, a5, a6, e', t, cp', t', a7, a8, a9⟩ := hc
    cases pts with
    | nil =>
      have hb : b = -1 := hp
      obtain ⟨r', tz, tc, t0, n, h1, h2⟩ := a3
      exact ⟨cend c, .inl ⟨by omega, r', _, tz, tc, t0, n, h1, h2, by unfold cend; omega⟩, by omega, cends.2, cends.1, (fun _ h => nomatch h)⟩
    | cons p s =>
      have hends := hp.ends
      obtain ⟨b1, b2, b3, b4, b5, b6, e'', b', b7, b8, b9⟩ := hp
      have p0 := b7.pos
      have hsep := hs c (List.mem_cons_self ..) p (List.mem_cons_self ..)
      have pe : p.spot + 8 ≤ pend p := by unfold pend; omega
      by_cases q : b < e
      · obtain ⟨r', tz, tc, t0, n, h1, h2⟩ := a3
        refine ⟨cend c, .inl ⟨q, r', _, tz, tc, t0, n, h1, h2, by unfold cend; omega⟩, by omega, cends.2, cends.1, fun x hx => ?_⟩
        have := hends.1 x hx
        omega
      · obtain ⟨t9, hn⟩ := b7.n
        refine ⟨pend p, .inr (.inl ⟨by omega, by omega, _, t9, b1 ▸ hn, by unfold pend; omega⟩), by omega, hends.2, fun x hx => ?_, hends.1⟩
        have := cends.1 x hx
        omega
end
-- P_inv
section

structure Inv (stk rws : List Value) (tl : List (Addr × Obj)) (hlen e b cp : Int) (ch : List (Int × List Value)) (pts : List Pt) : Prop where
  c : ChainL stk rws tl e cp ch
  p : PtsOK stk rws tl b hlen pts
  s : Sep ch pts
theorem Inv.pushEnv {stk stk' rws rws' : List Value} {tl tl' : List (Addr × Obj)} {hlen hlen' e b cp cp' v : Int} {te tcp : Tok} {ch : List (Int × List Value)} {pts : List Pt} {f : List Value} (I : Inv stk rws tl hlen e b cp ch pts)
    (v0 : 0 ≤ v) (hc : ∀ c ∈ ch, cend c ≤ v) (hp : ∀ p ∈ pts, pend p ≤ v) (hf : ∀ k x, k < v → At stk k x → At stk' k x) (h1 : ∀ k v, At rws k v → At rws' k v) (h2 : ∀ p ∈ tl, p ∈ tl') (hl : hlen ≤ hlen')
    (x0 : At stk' v (.int e te)) (x1 : At stk' (v + 1) (.int cp tcp)) (hr : RowIn stk' (v, f)) (f3 : f.length ≤ 3) (hz : RowSize rws' tl' cp' (f.length : Int)) : Inv stk' rws' tl' hlen' v b cp' ((v, f) :: ch) pts :=
  ⟨⟨rfl, v0, hz, hr, f3, hc, e, te, cp, tcp, x0, x1, I.c.frame hf h1 h2 hc⟩, I.p.frame hf h1 h2 hl hp, fun c hm p hq => by
    rcases List.mem_cons.mp hm with rfl | hm
    · exact .inr (hp p hq)
    · exact I.s c hm p hq⟩
theorem Inv.popEnv {stk rws : List Value} {tl : List (Addr × Obj)} {hlen e b cp : Int} {c : Int × List Value} {ch : List (Int × List Value)} {pts : List Pt} (I : Inv stk rws tl hlen e b cp (c :: ch) pts) :
    e = c.1 ∧ 0 ≤ e ∧ ∃ e' t cp' t', At stk e (.int e' t) ∧ At stk (e + 1) (.int cp' t') ∧ Inv stk rws tl hlen e' b cp' ch pts := by
  obtain ⟨⟨a1, a2, a3, a4, a5, a6, e', t, cp', t', a7, a8, a9⟩, hp, hs⟩ := I
  exact ⟨a1, by omega, e', t, cp', t', a1 ▸ a7, a1 ▸ a8, a9, hp, fun d hd p hq => hs d (List.mem_cons_of_mem _ hd) p hq⟩
theorem Inv.pushPt {stk stk' rws : List Value} {tl tl' : List (Addr × Obj)} {hlen e b cp : Int} {ch : List (Int × List Value)} {pts : List Pt} {p : Pt} (I : Inv stk rws tl hlen e b cp ch pts)
    (hc : ∀ c ∈ ch, cend c ≤ p.spot) (hp : ∀ q ∈ pts, pend q ≤ p.spot) (hf : ∀ k x, k < p.spot → At stk k x → At stk' k x) (h2 : ∀ p ∈ tl, p ∈ tl') (h0 : 0 ≤ hlen) (hl : p.hl = hlen) (hch : p.ch = ch) (hcp : p.cp = cp)
    (hr : PtRow stk' p e b) : Inv stk' rws tl' hlen e p.spot cp ch (p :: pts) := by
  subst hch; subst hcp
  have h1 : ∀ k v, At rws k v → At rws k v := fun _ _ h => h
  exact ⟨I.c.frame hf h1 h2 hc, ⟨rfl, by omega, by omega, hc, I.s, hp, e, b, hr, I.c.frame hf h1 h2 hc, I.p.frame hf h1 h2 (by omega) hp⟩, fun c hm q hq => by
    rcases List.mem_cons.mp hq with rfl | hq
    · exact .inl (hc c hm)
    · exact I.s c hm q hq⟩
theorem Inv.heap {stk rws : List Value} {tl tl' : List (Addr × Obj)} {hlen hlen' e b cp : Int} {ch : List (Int × List Value)} {pts : List Pt} (I : Inv stk rws tl hlen e b cp ch pts) (h2 : ∀ p ∈ tl, p ∈ tl') (hl : hlen ≤ hlen') (hp : ∀ p ∈ pts, pend p ≤ stk.length) (hc : ∀ c ∈ ch, cend c ≤ stk.length) : Inv stk rws tl' hlen' e b cp ch pts :=
  ⟨I.c.frame (fun _ _ _ h => h) (fun _ _ h => h) h2 hc, I.p.frame (fun _ _ _ h => h) (fun _ _ h => h) h2 hl hp, I.s⟩
theorem PtsOK.suffix {stk rws : List Value} {tl : List (Addr × Obj)} : ∀ {pts : List Pt} {b bound : Int} (n : Nat), PtsOK stk rws tl b bound pts → ∃ b' bound', bound' ≤ bound ∧ PtsOK stk rws tl b' bound' (pts.drop n) ∧ b' = (match pts.drop n with | [] => -1 | p :: _ => p.spot)
  | pts, b, bound, 0, h => by
    refine ⟨b, bound, Int.le_refl _, h, ?_⟩
    cases pts with
    | nil => exact h
    | cons p r => exact h.1
  | [], b, bound, n + 1, h => ⟨b, bound, Int.le_refl _, by simpa using h, h⟩
  | p :: r, b, bound, n + 1, h => by
    obtain ⟨a1, a2, a3, a4, a5, a6, e', b', a7, a8, a9⟩ := h
    obtain ⟨b2, bd2, q1, q2, q3⟩ := a9.suffix n
    exact ⟨b2, bd2, by omega, q2, q3⟩
theorem Inv.restore {stk rws : List Value} {tl : List (Addr × Obj)} {hlen e b cp : Int} {ch : List (Int × List Value)} {p : Pt} {pts : List Pt} (I : Inv stk rws tl hlen e b cp ch (p :: pts)) :
    b = p.spot ∧ 0 ≤ p.hl ∧ p.hl ≤ hlen ∧ ∃ e' b', PtRow stk p e' b' ∧ Inv stk rws tl p.hl e' b p.cp p.ch (p :: pts) ∧ Inv stk rws tl p.hl e' b' p.cp p.ch pts := by
  obtain ⟨hc, ⟨a1, a2, a3, a4, a5, a6, e', b', a7, a8, a9⟩, hs⟩ := I
  exact ⟨a1, a2, a3, e', b', a7, ⟨a8, ⟨a1, a2, Int.le_refl _, a4, a5, a6, e', b', a7, a8, a9⟩, fun c hm q hq => by
    rcases List.mem_cons.mp hq with rfl | hq
    · exact .inl (a4 c hm)
    · exact a5 c hm q hq⟩, ⟨a8, a9, a5⟩⟩
end
-- P_alt
section

theorem ChainL.frame2 {stk stk' rws : List Value} {tl : List (Addr × Obj)} :
    ∀ {ch : List (Int × List Value)} {e cp : Int}, ChainL stk rws tl e cp ch → (∀ c ∈ ch, ∀ k x, c.1 ≤ k → k < cend c → At stk k x → At stk' k x) → ChainL stk' rws tl e cp ch
  | [], _, _, h, _ => h
  | c :: r, e, cp, h, hc => by
    obtain ⟨a1, a2, a3, a4, a5, a6, e', t, cp', t', a7, a8, a9⟩ := h
    have h0 := hc c (List.mem_cons_self ..)
    have h9 := cend_pos (c := c)
    refine ⟨a1, a2, a3, fun j x hj => ?_, a5, a6, e', t, cp', t', h0 _ _ (by omega) (by omega) a7, h0 _ _ (by omega) (by omega) a8, ChainL.frame2 a9 (fun d hd => hc d (List.mem_cons_of_mem _ hd))⟩
    have hlt : j < c.2.length := (List.getElem?_eq_some_iff.mp hj).1
    exact h0 _ _ (by omega) (by unfold cend; omega) (a4 j x hj)
theorem Inv.alt {stk stk' rws : List Value} {tl : List (Addr × Obj)} {hlen e b cp fu : Int} {t : Tok} {ch : List (Int × List Value)} {p : Pt} {pts : List Pt} (I : Inv stk rws tl hlen e b cp ch (p :: pts))
    (hf : ∀ k x, k ≠ p.spot + (p.gv.length : Int) + 4 → At stk k x → At stk' k x) (hx : At stk' (p.spot + (p.gv.length : Int) + 4) (.int fu t)) : Inv stk' rws tl hlen e b cp ch ({ p with fu := fu } :: pts) := by
  obtain ⟨hc, ⟨a1, a2, a3, a4, a5, a6, e', b', a7, a8, a9⟩, hs⟩ := I
  have hb : ∀ k x, k < p.spot → At stk k x → At stk' k x := fun k x hk => hf k x (by omega)
  have hi : ∀ k v, At rws k v → At rws k v := fun _ _ h => h
  refine ⟨hc.frame2 (fun c hm k x h1 h2 => hf k x ?_), ⟨a1, a2, a3, a4, a5, a6, e', b', ?_, a8.frame hb hi (fun _ h => h) a4, a9.frame hb hi (fun _ h => h) (Int.le_refl _) a6⟩, fun c hm q hq => ?_⟩
  · have := hs c hm p (List.mem_cons_self ..)
    unfold pend at this
    omega
  · obtain ⟨h0, ⟨t, h1⟩, hg, h3, ⟨t1, y1⟩, ⟨t2, y2⟩, ⟨t3, y3⟩, ⟨t4, y4⟩, ⟨t5, y5⟩, ⟨t6, y6⟩, ⟨t7, y7⟩⟩ := a7
    refine ⟨h0, ⟨t, hf _ _ (by dsimp only; omega) h1⟩, fun j x hj => ?_, h3, ⟨t1, hf _ _ (by dsimp only; omega) y1⟩, ⟨t2, hf _ _ (by dsimp only; omega) y2⟩, ⟨t3, hf _ _ (by dsimp only; omega) y3⟩, ⟨_, hx⟩, ⟨t5, hf _ _ (by dsimp only; omega) y5⟩, ⟨t6, hf _ _ (by dsimp only; omega) y6⟩, ⟨t7, hf _ _ (by dsimp only; omega) y7⟩⟩
    have hlt : j < p.gv.length := (List.getElem?_eq_some_iff.mp hj).1
    exact hf _ _ (by dsimp only; omega) (hg j x hj)
  · rcases List.mem_cons.mp hq with rfl | hq
    · exact hs c hm p (List.mem_cons_self ..)
    · exact hs c hm q (List.mem_cons_of_mem _ hq)
theorem Inv.cut {stk rws : List Value} {tl : List (Addr × Obj)} {hlen e b cp : Int} {ch : List (Int × List Value)} {pts : List Pt} (I : Inv stk rws tl hlen e b cp ch pts) (n : Nat) :
    ∃ b', b' = (match pts.drop n with | [] => -1 | p :: _ => p.spot) ∧ Inv stk rws tl hlen e b' cp ch (pts.drop n) := by
  obtain ⟨b', bd, h1, h2, h3⟩ := I.p.suffix n
  refine ⟨b', h3, I.c, ?_, fun c hm q hq => I.s c hm q (List.mem_of_mem_drop hq)⟩
  have hi : ∀ k v, At rws k v → At rws k v := fun _ _ h => h
  cases hd : pts.drop n with
  | nil => rw [hd] at h2; exact h2
  | cons p r =>
    rw [hd] at h2
    exact h2.frame (v := pend p) (fun _ _ _ h => h) hi (fun _ h => h) h1 h2.ends.1
end
-- F_defs
section
noncomputable abbrev br1G {q : Program} {loose : List Str} {XP : (Str → Option Value) → Heap → Prop} {YP : World → Heap → Prop} {r : RowW} {kwd : List (Str × PySem.Expr)} {run : Value → List Value → Sem Value} {G : Prop} {nm : Str} {ps : Arguments} {s1 s2 s3 s4 s5 s6 d1 st1 ret : Stmt} {tg itr c1 c2 c3 c4 c5 c6 : PySem.Expr} {x1 x2 x3 x4 x5 x6 lo : List Stmt} {lp p1 p2 p3 p4 p5 p6 pos : Pos} {sc : Scope} (_ : WalkO q loose XP YP r ⟨nm, ps, [s1, s2, s3, s4, s5, s6, .For tg itr [d1, .If c1 x1 [.If c2 x2 [.If c3 x3 [.If c4 x4 [.If c5 x5 [.If c6 x6 [] p6] p5] p4] p3] p2] p1, st1] lo lp, ret], sc, pos⟩ kwd run → G) : List Stmt := x1
noncomputable abbrev br1 : List Stmt := br1G kHd
noncomputable abbrev br2G {q : Program} {loose : List Str} {XP : (Str → Option Value) → Heap → Prop} {YP : World → Heap → Prop} {r : RowW} {kwd : List (Str × PySem.Expr)} {run : Value → List Value → Sem Value} {G : Prop} {nm : Str} {ps : Arguments} {s1 s2 s3 s4 s5 s6 d1 st1 ret : Stmt} {tg itr c1 c2 c3 c4 c5 c6 : PySem.Expr} {x1 x2 x3 x4 x5 x6 lo : List Stmt} {lp p1 p2 p3 p4 p5 p6 pos : Pos} {sc : Scope} (_ : WalkO q loose XP YP r ⟨nm, ps, [s1, s2, s3, s4, s5, s6, .For tg itr [d1, .If c1 x1 [.If c2 x2 [.If c3 x3 [.If c4 x4 [.If c5 x5 [.If c6 x6 [] p6] p5] p4] p3] p2] p1, st1] lo lp, ret], sc, pos⟩ kwd run → G) : List Stmt := x2
noncomputable abbrev br2 : List Stmt := br2G kHd
noncomputable abbrev br3G {q : Program} {loose : List Str} {XP : (Str → Option Value) → Heap → Prop} {YP : World → Heap → Prop} {r : RowW} {kwd : List (Str × PySem.Expr)} {run : Value → List Value → Sem Value} {G : Prop} {nm : Str} {ps : Arguments} {s1 s2 s3 s4 s5 s6 d1 st1 ret : Stmt} {tg itr c1 c2 c3 c4 c5 c6 : PySem.Expr} {x1 x2 x3 x4 x5 x6 lo : List Stmt} {lp p1 p2 p3 p4 p5 p6 pos : Pos} {sc : Scope} (_ : WalkO q loose XP YP r ⟨nm, ps, [s1, s2, s3, s4, s5, s6, .For tg itr [d1, .If c1 x1 [.If c2 x2 [.If c3 x3 [.If c4 x4 [.If c5 x5 [.If c6 x6 [] p6] p5] p4] p3] p2] p1, st1] lo lp, ret], sc, pos⟩ kwd run → G) : List Stmt := x3
noncomputable abbrev br3 : List Stmt := br3G kHd
noncomputable abbrev br4G {q : Program} {loose : List Str} {XP : (Str → Option Value) → Heap → Prop} {YP : World → Heap → Prop} {r : RowW} {kwd : List (Str × PySem.Expr)} {run : Value → List Value → Sem Value} {G : Prop} {nm : Str} {ps : Arguments} {s1 s2 s3 s4 s5 s6 d1 st1 ret : Stmt} {tg itr c1 c2 c3 c4 c5 c6 : PySem.Expr} {x1 x2 x3 x4 x5 x6 lo : List Stmt} {lp p1 p2 p3 p4 p5 p6 pos : Pos} {sc : Scope} (_ : WalkO q loose XP YP r ⟨nm, ps, [s1, s2, s3, s4, s5, s6, .For tg itr [d1, .If c1 x1 [.If c2 x2 [.If c3 x3 [.If c4 x4 [.If c5 x5 [.If c6 x6 [] p6] p5] p4] p3] p2] p1, st1] lo lp, ret], sc, pos⟩ kwd run → G) : List Stmt := x4
noncomputable abbrev br4 : List Stmt := br4G kHd
noncomputable abbrev br5G {q : Program} {loose : List Str} {XP : (Str → Option Value) → Heap → Prop} {YP : World → Heap → Prop} {r : RowW} {kwd : List (Str × PySem.Expr)} {run : Value → List Value → Sem Value} {G : Prop} {nm : Str} {ps : Arguments} {s1 s2 s3 s4 s5 s6 d1 st1 ret : Stmt} {tg itr c1 c2 c3 c4 c5 c6 : PySem.Expr} {x1 x2 x3 x4 x5 x6 lo : List Stmt} {lp p1 p2 p3 p4 p5 p6 pos : Pos} {sc : Scope} (_ : WalkO q loose XP YP r ⟨nm, ps, [s1, s2, s3, s4, s5, s6, .For tg itr [d1, .If c1 x1 [.If c2 x2 [.If c3 x3 [.If c4 x4 [.If c5 x5 [.If c6 x6 [] p6] p5] p4] p3] p2] p1, st1] lo lp, ret], sc, pos⟩ kwd run → G) : List Stmt := x5
noncomputable abbrev br5 : List Stmt := br5G kHd
noncomputable abbrev br6G {q : Program} {loose : List Str} {XP : (Str → Option Value) → Heap → Prop} {YP : World → Heap → Prop} {r : RowW} {kwd : List (Str × PySem.Expr)} {run : Value → List Value → Sem Value} {G : Prop} {nm : Str} {ps : Arguments} {s1 s2 s3 s4 s5 s6 d1 st1 ret : Stmt} {tg itr c1 c2 c3 c4 c5 c6 : PySem.Expr} {x1 x2 x3 x4 x5 x6 lo : List Stmt} {lp p1 p2 p3 p4 p5 p6 pos : Pos} {sc : Scope} (_ : WalkO q loose XP YP r ⟨nm, ps, [s1, s2, s3, s4, s5, s6, .For tg itr [d1, .If c1 x1 [.If c2 x2 [.If c3 x3 [.If c4 x4 [.If c5 x5 [.If c6 x6 [] p6] p5] p4] p3] p2] p1, st1] lo lp, ret], sc, pos⟩ kwd run → G) : List Stmt := x6
noncomputable abbrev br6 : List Stmt := br6G kHd
noncomputable abbrev lbodyG {q : Program} {loose : List Str} {XP : (Str → Option Value) → Heap → Prop} {YP : World → Heap → Prop} {r : RowW} {kwd : List (Str × PySem.Expr)} {run : Value → List Value → Sem Value} {G : Prop} {nm : Str} {ps : Arguments} {s1 s2 s3 s4 s5 s6 d1 st1 ret : Stmt} {tg itr c1 c2 c3 c4 c5 c6 : PySem.Expr} {x1 x2 x3 x4 x5 x6 lo : List Stmt} {lp p1 p2 p3 p4 p5 p6 pos : Pos} {sc : Scope} (_ : WalkO q loose XP YP r ⟨nm, ps, [s1, s2, s3, s4, s5, s6, .For tg itr [d1, .If c1 x1 [.If c2 x2 [.If c3 x3 [.If c4 x4 [.If c5 x5 [.If c6 x6 [] p6] p5] p4] p3] p2] p1, st1] lo lp, ret], sc, pos⟩ kwd run → G) : List Stmt := [d1, .If c1 x1 [.If c2 x2 [.If c3 x3 [.If c4 x4 [.If c5 x5 [.If c6 x6 [] p6] p5] p4] p3] p2] p1, st1]
noncomputable abbrev lbody : List Stmt := lbodyG kHd
noncomputable abbrev stbG {q : Program} {loose : List Str} {XP : (Str → Option Value) → Heap → Prop} {YP : World → Heap → Prop} {r : RowW} {kwd : List (Str × PySem.Expr)} {run : Value → List Value → Sem Value} {G : Prop} {nm : Str} {ps : Arguments} {s1 s2 s3 s4 s5 s6 d1 st1 ret : Stmt} {tg itr c1 c2 c3 c4 c5 c6 : PySem.Expr} {x1 x2 x3 x4 x5 x6 lo : List Stmt} {lp p1 p2 p3 p4 p5 p6 pos : Pos} {sc : Scope} (_ : WalkO q loose XP YP r ⟨nm, ps, [s1, s2, s3, s4, s5, s6, .For tg itr [d1, .If c1 x1 [.If c2 x2 [.If c3 x3 [.If c4 x4 [.If c5 x5 [.If c6 x6 [] p6] p5] p4] p3] p2] p1, st1] lo lp, ret], sc, pos⟩ kwd run → G) : List Stmt := [st1]
noncomputable abbrev stb : List Stmt := stbG kHd
noncomputable abbrev lscopeG {q : Program} {loose : List Str} {XP : (Str → Option Value) → Heap → Prop} {YP : World → Heap → Prop} {r : RowW} {kwd : List (Str × PySem.Expr)} {run : Value → List Value → Sem Value} {G : Prop} {nm : Str} {ps : Arguments} {s1 s2 s3 s4 s5 s6 d1 st1 ret : Stmt} {tg itr c1 c2 c3 c4 c5 c6 : PySem.Expr} {x1 x2 x3 x4 x5 x6 lo : List Stmt} {lp p1 p2 p3 p4 p5 p6 pos : Pos} {sc : Scope} (_ : WalkO q loose XP YP r ⟨nm, ps, [s1, s2, s3, s4, s5, s6, .For tg itr [d1, .If c1 x1 [.If c2 x2 [.If c3 x3 [.If c4 x4 [.If c5 x5 [.If c6 x6 [] p6] p5] p4] p3] p2] p1, st1] lo lp, ret], sc, pos⟩ kwd run → G) : Scope := sc
noncomputable abbrev lscope : Scope := lscopeG kHd
noncomputable abbrev lnameG {q : Program} {loose : List Str} {XP : (Str → Option Value) → Heap → Prop} {YP : World → Heap → Prop} {r : RowW} {kwd : List (Str × PySem.Expr)} {run : Value → List Value → Sem Value} {G : Prop} {nm : Str} {ps : Arguments} {s1 s2 s3 s4 s5 s6 d1 st1 ret : Stmt} {tg itr c1 c2 c3 c4 c5 c6 : PySem.Expr} {x1 x2 x3 x4 x5 x6 lo : List Stmt} {lp p1 p2 p3 p4 p5 p6 pos : Pos} {sc : Scope} (_ : WalkO q loose XP YP r ⟨nm, ps, [s1, s2, s3, s4, s5, s6, .For tg itr [d1, .If c1 x1 [.If c2 x2 [.If c3 x3 [.If c4 x4 [.If c5 x5 [.If c6 x6 [] p6] p5] p4] p3] p2] p1, st1] lo lp, ret], sc, pos⟩ kwd run → G) : Str := nm
noncomputable abbrev lname : Str := lnameG kHd
noncomputable abbrev lenv (L fa : Addr) (cd : Value) : Env := envOf lname lscope L fa cd
noncomputable abbrev LM (sp rows mm ca pa : Addr) (mn : Int) (tmn : Tok) (r : Str → Option Value) : Str → Option Value := fun y => if y = Str.ofString "strip" then (some (.ref sp)) else if y = Str.ofString "rows_of" then (some (.ref rows)) else if y = Str.ofString "m" then (some (.ref mm)) else if y = Str.ofString "chain" then (some (.ref ca)) else if y = Str.ofString "points" then (some (.ref pa)) else if y = Str.ofString "mark_no" then (some (.int mn tmn)) else r y
theorem Fr.lm {h₀ h : Heap} {L sp rows mm ca pa : Addr} {mn : Int} {tmn : Tok} {m : Str → Option Value} (F : Fr h₀ L h m) (h1 : m (Str.ofString "strip") = some (.ref sp)) (h2 : m (Str.ofString "rows_of") = some (.ref rows)) (h3 : m (Str.ofString "m") = some (.ref mm)) (h4 : m (Str.ofString "chain") = some (.ref ca)) (h5 : m (Str.ofString "points") = some (.ref pa)) (h6 : m (Str.ofString "mark_no") = some (.int mn tmn)) : Fr h₀ L h (LM sp rows mm ca pa mn tmn m) := by
  have e : m = LM sp rows mm ca pa mn tmn m := by
    funext y
    dsimp only [LM]
    by_cases e1 : y = Str.ofString "strip"
    · rw [if_pos e1, e1, h1]
    rw [if_neg e1]
    by_cases e2 : y = Str.ofString "rows_of"
    · rw [if_pos e2, e2, h2]
    rw [if_neg e2]
    by_cases e3 : y = Str.ofString "m"
    · rw [if_pos e3, e3, h3]
    rw [if_neg e3]
    by_cases e4 : y = Str.ofString "chain"
    · rw [if_pos e4, e4, h4]
    rw [if_neg e4]
    by_cases e5 : y = Str.ofString "points"
    · rw [if_pos e5, e5, h5]
    rw [if_neg e5]
    by_cases e6 : y = Str.ofString "mark_no"
    · rw [if_pos e6, e6, h6]
    rw [if_neg e6]
  rw [← e]; exact F
set_option genInjectivity false
set_option genSizeOf false
structure LSt where
  cp : Int
  e : Int
  b : Int
  hbv : Int
  bbv : Int
  mn : Int
  tcp : Tok
  te : Tok
  tb : Tok
  thb : Tok
  tbb : Tok
  tmn : Tok
  nk : Nat
  nh : Nat
  nx : Nat
  nr : Nat
  kS : Nat
  kc : Nat
  kp : Nat
  stk : List Value
  hpv : List Value
  xs : List Value
  rws : List Value
  sv : List Value
  cvs : List Value
  pvs : List Value
  tl : List (Addr × Obj)
  ca : Addr
  pa : Addr
  ch : List (Int × List Value)
  pts : List Pt
  rest : Str → Option Value
structure LOK (prog : Program) (w : World) (sp rows md mm sd st hp sk tr xl : Addr) (ext : List (Addr × Obj)) (i : Nat) (q : LSt) : Prop where
  hi : i ≤ 24
  hs : ∃ ns, IntsAre q.sv ns
  hsz : q.sv.length ≤ 150
  geo : Geo rows md mm sd st hp sk tr xl q.tl
  hsp : @LT.lt Nat _ sp rows
  osp : Off [sp] q.tl
  hca : (q.ca, W.listOf q.cvs.toArray q.kc) ∈ q.tl
  hcv : ChainVals q.tl q.cvs q.ch
  hpa : (q.pa, W.listOf q.pvs.toArray q.kp) ∈ q.tl
  hpv : PtVals prog w q.tl q.pvs q.pts
  nd : q.pvs.Nodup
  inv : Inv q.stk q.rws q.tl q.hpv.length q.e q.b q.cp q.ch q.pts
  l1 : q.stk.length ≤ 11 * i
  l2 : q.hpv.length ≤ i
  l3 : q.ch.length ≤ i
  l4 : q.pts.length ≤ i
  l5 : q.rws.length ≤ i
  l6 : 1 ≤ q.xs.length ∧ q.xs.length ≤ 1 + 3 * i
  l7 : ∀ p ∈ q.pts, p.ch.length ≤ i
  hx : ∀ p ∈ ext, p ∈ q.tl ∧ ∀ es ep, p.2.data ≠ .dict es ep
theorem News.front {h₀ h : Heap} {L : Addr} (G : List (Addr × Obj)) {s a1 a2 a3 a4 a5 a6 a7 a8 a9 : Addr × Obj} {tl : List (Addr × Obj)} (N : News h₀ L h (G ++ (s :: a1 :: a2 :: a3 :: a4 :: a5 :: a6 :: a7 :: a8 :: a9 :: tl))) : News h₀ L h (s :: a1 :: a2 :: a3 :: a4 :: a5 :: a6 :: a7 :: a8 :: a9 :: (G ++ tl)) := News.swapG G [s, a1, a2, a3, a4, a5, a6, a7, a8, a9] N
theorem News.front9 {h₀ h : Heap} {L : Addr} (G : List (Addr × Obj)) {a1 a2 a3 a4 a5 a6 a7 a8 a9 : Addr × Obj} {tl : List (Addr × Obj)} (N : News h₀ L h (G ++ (a1 :: a2 :: a3 :: a4 :: a5 :: a6 :: a7 :: a8 :: a9 :: tl))) : News h₀ L h (a1 :: a2 :: a3 :: a4 :: a5 :: a6 :: a7 :: a8 :: a9 :: (G ++ tl)) := News.swapG G [a1, a2, a3, a4, a5, a6, a7, a8, a9] N
theorem News.sw {h₀ h : Heap} {L : Addr} {a b : Addr × Obj} {l : List (Addr × Obj)} (N : News h₀ L h (a :: b :: l)) : News h₀ L h (b :: a :: l) := News.swapG [a] [b] N
theorem Off.cons1 {sp : Addr} {p : Addr × Obj} {l : List (Addr × Obj)} (h : @Ne Nat p.1 sp) (ho : Off [sp] l) : Off [sp] (p :: l) := fun x hx q hq => by
  rcases List.mem_cons.mp hx with rfl | hx
  · rw [List.mem_singleton.mp hq]; exact h
  · exact ho x hx q hq
theorem News.z1 {h₀ h : Heap} {L : Addr} {s u1 a1 a2 a3 a4 a5 a6 a7 a8 a9 : Addr × Obj} {tl : List (Addr × Obj)} (N : News h₀ L h (u1 :: s :: a1 :: a2 :: a3 :: a4 :: a5 :: a6 :: a7 :: a8 :: a9 :: tl)) : News h₀ L h (s :: a1 :: a2 :: a3 :: a4 :: a5 :: a6 :: a7 :: a8 :: a9 :: u1 :: tl) := News.front [u1] N
theorem News.w2 {h₀ h : Heap} {L : Addr} {u1 u2 a1 a2 a3 a4 a5 a6 a7 a8 a9 : Addr × Obj} {tl : List (Addr × Obj)} (N : News h₀ L h (u1 :: u2 :: a1 :: a2 :: a3 :: a4 :: a5 :: a6 :: a7 :: a8 :: a9 :: tl)) : News h₀ L h (a1 :: a2 :: a3 :: a4 :: a5 :: a6 :: a7 :: a8 :: a9 :: u1 :: u2 :: tl) := News.front9 [u1, u2] N
theorem News.z2 {h₀ h : Heap} {L : Addr} {s u1 u2 a1 a2 a3 a4 a5 a6 a7 a8 a9 : Addr × Obj} {tl : List (Addr × Obj)} (N : News h₀ L h (u1 :: u2 :: s :: a1 :: a2 :: a3 :: a4 :: a5 :: a6 :: a7 :: a8 :: a9 :: tl)) : News h₀ L h (s :: a1 :: a2 :: a3 :: a4 :: a5 :: a6 :: a7 :: a8 :: a9 :: u1 :: u2 :: tl) := News.front [u1, u2] N
theorem News.w3 {h₀ h : Heap} {L : Addr} {u1 u2 u3 a1 a2 a3 a4 a5 a6 a7 a8 a9 : Addr × Obj} {tl : List (Addr × Obj)} (N : News h₀ L h (u1 :: u2 :: u3 :: a1 :: a2 :: a3 :: a4 :: a5 :: a6 :: a7 :: a8 :: a9 :: tl)) : News h₀ L h (a1 :: a2 :: a3 :: a4 :: a5 :: a6 :: a7 :: a8 :: a9 :: u1 :: u2 :: u3 :: tl) := News.front9 [u1, u2, u3] N
theorem News.z3 {h₀ h : Heap} {L : Addr} {s u1 u2 u3 a1 a2 a3 a4 a5 a6 a7 a8 a9 : Addr × Obj} {tl : List (Addr × Obj)} (N : News h₀ L h (u1 :: u2 :: u3 :: s :: a1 :: a2 :: a3 :: a4 :: a5 :: a6 :: a7 :: a8 :: a9 :: tl)) : News h₀ L h (s :: a1 :: a2 :: a3 :: a4 :: a5 :: a6 :: a7 :: a8 :: a9 :: u1 :: u2 :: u3 :: tl) := News.front [u1, u2, u3] N
theorem News.w4 {h₀ h : Heap} {L : Addr} {u1 u2 u3 u4 a1 a2 a3 a4 a5 a6 a7 a8 a9 : Addr × Obj} {tl : List (Addr × Obj)} (N : News h₀ L h (u1 :: u2 :: u3 :: u4 :: a1 :: a2 :: a3 :: a4 :: a5 :: a6 :: a7 :: a8 :: a9 :: tl)) : News h₀ L h (a1 :: a2 :: a3 :: a4 :: a5 :: a6 :: a7 :: a8 :: a9 :: u1 :: u2 :: u3 :: u4 :: tl) := News.front9 [u1, u2, u3, u4] N
theorem News.z4 {h₀ h : Heap} {L : Addr} {s u1 u2 u3 u4 a1 a2 a3 a4 a5 a6 a7 a8 a9 : Addr × Obj} {tl : List (Addr × Obj)} (N : News h₀ L h (u1 :: u2 :: u3 :: u4 :: s :: a1 :: a2 :: a3 :: a4 :: a5 :: a6 :: a7 :: a8 :: a9 :: tl)) : News h₀ L h (s :: a1 :: a2 :: a3 :: a4 :: a5 :: a6 :: a7 :: a8 :: a9 :: u1 :: u2 :: u3 :: u4 :: tl) := News.front [u1, u2, u3, u4] N
theorem News.w5 {h₀ h : Heap} {L : Addr} {u1 u2 u3 u4 u5 a1 a2 a3 a4 a5 a6 a7 a8 a9 : Addr × Obj} {tl : List (Addr × Obj)} (N : News h₀ L h (u1 :: u2 :: u3 :: u4 :: u5 :: a1 :: a2 :: a3 :: a4 :: a5 :: a6 :: a7 :: a8 :: a9 :: tl)) : News h₀ L h (a1 :: a2 :: a3 :: a4 :: a5 :: a6 :: a7 :: a8 :: a9 :: u1 :: u2 :: u3 :: u4 :: u5 :: tl) := News.front9 [u1, u2, u3, u4, u5] N
theorem News.z5 {h₀ h : Heap} {L : Addr} {s u1 u2 u3 u4 u5 a1 a2 a3 a4 a5 a6 a7 a8 a9 : Addr × Obj} {tl : List (Addr × Obj)} (N : News h₀ L h (u1 :: u2 :: u3 :: u4 :: u5 :: s :: a1 :: a2 :: a3 :: a4 :: a5 :: a6 :: a7 :: a8 :: a9 :: tl)) : News h₀ L h (s :: a1 :: a2 :: a3 :: a4 :: a5 :: a6 :: a7 :: a8 :: a9 :: u1 :: u2 :: u3 :: u4 :: u5 :: tl) := News.front [u1, u2, u3, u4, u5] N
theorem News.w6 {h₀ h : Heap} {L : Addr} {u1 u2 u3 u4 u5 u6 a1 a2 a3 a4 a5 a6 a7 a8 a9 : Addr × Obj} {tl : List (Addr × Obj)} (N : News h₀ L h (u1 :: u2 :: u3 :: u4 :: u5 :: u6 :: a1 :: a2 :: a3 :: a4 :: a5 :: a6 :: a7 :: a8 :: a9 :: tl)) : News h₀ L h (a1 :: a2 :: a3 :: a4 :: a5 :: a6 :: a7 :: a8 :: a9 :: u1 :: u2 :: u3 :: u4 :: u5 :: u6 :: tl) := News.front9 [u1, u2, u3, u4, u5, u6] N
theorem News.z6 {h₀ h : Heap} {L : Addr} {s u1 u2 u3 u4 u5 u6 a1 a2 a3 a4 a5 a6 a7 a8 a9 : Addr × Obj} {tl : List (Addr × Obj)} (N : News h₀ L h (u1 :: u2 :: u3 :: u4 :: u5 :: u6 :: s :: a1 :: a2 :: a3 :: a4 :: a5 :: a6 :: a7 :: a8 :: a9 :: tl)) : News h₀ L h (s :: a1 :: a2 :: a3 :: a4 :: a5 :: a6 :: a7 :: a8 :: a9 :: u1 :: u2 :: u3 :: u4 :: u5 :: u6 :: tl) := News.front [u1, u2, u3, u4, u5, u6] N
theorem News.w7 {h₀ h : Heap} {L : Addr} {u1 u2 u3 u4 u5 u6 u7 a1 a2 a3 a4 a5 a6 a7 a8 a9 : Addr × Obj} {tl : List (Addr × Obj)} (N : News h₀ L h (u1 :: u2 :: u3 :: u4 :: u5 :: u6 :: u7 :: a1 :: a2 :: a3 :: a4 :: a5 :: a6 :: a7 :: a8 :: a9 :: tl)) : News h₀ L h (a1 :: a2 :: a3 :: a4 :: a5 :: a6 :: a7 :: a8 :: a9 :: u1 :: u2 :: u3 :: u4 :: u5 :: u6 :: u7 :: tl) := News.front9 [u1, u2, u3, u4, u5, u6, u7] N
theorem News.z7 {h₀ h : Heap} {L : Addr} {s u1 u2 u3 u4 u5 u6 u7 a1 a2 a3 a4 a5 a6 a7 a8 a9 : Addr × Obj} {tl : List (Addr × Obj)} (N : News h₀ L h (u1 :: u2 :: u3 :: u4 :: u5 :: u6 :: u7 :: s :: a1 :: a2 :: a3 :: a4 :: a5 :: a6 :: a7 :: a8 :: a9 :: tl)) : News h₀ L h (s :: a1 :: a2 :: a3 :: a4 :: a5 :: a6 :: a7 :: a8 :: a9 :: u1 :: u2 :: u3 :: u4 :: u5 :: u6 :: u7 :: tl) := News.front [u1, u2, u3, u4, u5, u6, u7] N
theorem TopIs.mono {e b cp v : Int} {stk rws : List Value} {tl tl' : List (Addr × Obj)} (h : TopIs e b cp stk rws tl v) (hs : ∀ p ∈ tl, p ∈ tl') : TopIs e b cp stk rws tl' v := by
  rcases h with ⟨h1, r, z, tz, tc, t0, n, hr, hm, h2⟩ | h | h
  · exact .inl ⟨h1, r, z, tz, tc, t0, n, hr, hs _ hm, h2⟩
  · exact .inr (.inl h)
  · exact .inr (.inr h)
theorem At.last {l : List Value} {k : Int} {v : Value} (h : k = l.length) (hb : l.length ≤ 1000000) : At (l ++ [v]) k v := ⟨by omega, by omega, by
  have : k.toNat = l.length := by omega
  rw [this]; simp⟩
theorem At.snoc {l : List Value} {k : Int} {v x : Value} (h : At l k v) : At (l ++ [x]) k v := ⟨h.1, h.2.1, by
  have := (List.getElem?_eq_some_iff.mp h.2.2).1
  rw [List.getElem?_append_left this]; exact h.2.2⟩
theorem At.put_eq {l : List Value} {i : Int} {v : Value} (h0 : 0 ≤ i) (h : i ≤ l.length) (hb : l.length ≤ 1000000) : At (putS l i v) i v := ⟨h0, by omega, by
  rw [putS_get h0 h, if_pos (by omega)]⟩
theorem At.put_ne {l : List Value} {i k : Int} {v x : Value} (h0 : 0 ≤ i) (h : i ≤ l.length) (ha : At l k x) (hk : k ≠ i) : At (putS l i v) k x := ⟨ha.1, ha.2.1, by
  rw [putS_get h0 h, if_neg (by have := ha.1; omega)]; exact ha.2.2⟩
section
variable {prog : Program} {w : World} {A : Around} {E : Value → Shared → Prop} {s : Shared} {h₀ : Heap} {L a b : Addr} {m : Str → Option Value} {news : List (Addr × Obj)} {vs : List Value} {x : Value} {k k' : Nat}
theorem my_cat1 {Q : Value → Shared → Prop} (F : Fr h₀ L s.heap m) (N : News h₀ L s.heap news) (ha : (a, W.listOf [x].toArray k) ∈ news) (hb : (b, W.listOf vs.toArray k') ∈ news) (hz : vs.length ≤ 1000)
    (h : ∀ D h', Fr h₀ L h' m → News h₀ L h' ((D, W.listOf (x :: vs).toArray 0) :: news) → (∀ p ∈ news, p.1 < D) → Q (.ref D) { s with heap := h' }) : wpAny (model prog w) A (binaryOp .Add (.ref a) (.ref b)) Q E s :=
  kmk_add_lit F N ⟨_, (N _ ha).1, rfl, k, rfl⟩ ⟨_, (N _ hb).1, rfl, k', rfl⟩ rfl h (by rw [sizeLine_eq]; simp; omega)
theorem my_ne_int {a b : Int} {t u : Tok} {Q : Value → Shared → Prop} (e : a = b) (h : Q (.bool false) s) : wpAny (model prog w) A (compareOp .NotEq (.int a t) (.int b u)) Q E s := by
  subst e
  exact PySem.SeqAt.RcNeAt.int_int a t a u prog w E Q (by simpa using h)
theorem my_ne_nil {Q : Value → Shared → Prop} (N : News h₀ L s.heap news) (ha : (a, W.listOf vs.toArray k) ∈ news) (hb : (b, W.listOf [].toArray k') ∈ news) (hu : A.units < cLine)
    (h1 : vs = [] → Q (.bool false) s) (h2 : 0 < vs.length → Q (.bool true) s) : wpAny (model prog w) A (compareOp .NotEq (.ref a) (.ref b)) Q E s := by
  cases vs with
  | nil => exact my_ne_same N ha hb hu (h1 rfl)
  | cons y r => exact PySem.SeqAt.RcNeAt.lists_lengths ⟨_, (N _ ha).1, rfl, k, rfl⟩ ⟨_, (N _ hb).1, rfl, k', rfl⟩ (by simp) hu prog w E Q (h2 (by simp))
end
theorem Inv.sub {stk rws : List Value} {tl tl' : List (Addr × Obj)} {hlen e b cp : Int} {ch : List (Int × List Value)} {pts : List Pt} (I : Inv stk rws tl hlen e b cp ch pts) (h2 : ∀ p ∈ tl, p ∈ tl') : Inv stk rws tl' hlen e b cp ch pts := by
  obtain ⟨v, hv, v0, v1, vc, vp⟩ := top_ok I.c I.p I.s
  exact I.heap h2 (Int.le_refl _) (fun p hp => Int.le_trans (vp p hp) v1) (fun c hc => Int.le_trans (vc c hc) v1)
def Keeps (tl tl' : List (Addr × Obj)) : Prop := ∀ x o, (x, o) ∈ tl → (∃ l n, o.data = .seq l n) → (x, o) ∈ tl'
theorem RowSize.keep {rws : List Value} {tl tl' : List (Addr × Obj)} {cp z : Int} (h : RowSize rws tl cp z) (k : Keeps tl tl') : RowSize rws tl' cp z := by
  obtain ⟨r, tz, tc, t0, n, a, b⟩ := h
  exact ⟨r, tz, tc, t0, n, a, k _ _ b ⟨_, _, rfl⟩⟩
theorem ChainL.keep {stk rws : List Value} {tl tl' : List (Addr × Obj)} (k : Keeps tl tl') : ∀ {ch : List (Int × List Value)} {e cp : Int}, ChainL stk rws tl e cp ch → ChainL stk rws tl' e cp ch
  | [], _, _, h => h
  | c :: r, e, cp, h => by
    obtain ⟨a1, a2, a3, a4, a5, a6, e', t, cp', t', a7, a8, a9⟩ := h
    exact ⟨a1, a2, a3.keep k, a4, a5, a6, e', t, cp', t', a7, a8, ChainL.keep k a9⟩
theorem PtsOK.keep {stk rws : List Value} {tl tl' : List (Addr × Obj)} (k : Keeps tl tl') : ∀ {pts : List Pt} {b bound : Int}, PtsOK stk rws tl b bound pts → PtsOK stk rws tl' b bound pts
  | [], _, _, h => h
  | p :: r, b, bound, h => by
    obtain ⟨a1, a2, a3, a4, a5, a6, e', b', a7, a8, a9⟩ := h
    exact ⟨a1, a2, a3, a4, a5, a6, e', b', a7, a8.keep k, PtsOK.keep k a9⟩
theorem Inv.keep {stk rws : List Value} {tl tl' : List (Addr × Obj)} {hlen e b cp : Int} {ch : List (Int × List Value)} {pts : List Pt} (I : Inv stk rws tl hlen e b cp ch pts) (k : Keeps tl tl') : Inv stk rws tl' hlen e b cp ch pts := ⟨I.c.keep k, I.p.keep k, I.s⟩
theorem ChainVals.keep {tl tl' : List (Addr × Obj)} {vs : List Value} {ch : List (Int × List Value)} (h : ChainVals tl vs ch) (k : Keeps tl tl') : ChainVals tl' vs ch := by
  induction h with
  | nil => exact .nil
  | cons a b _ ih => exact .cons (k _ _ a ⟨_, _, rfl⟩) (k _ _ b ⟨_, _, rfl⟩) ih
theorem PtAt.keep {prog : Program} {w : World} {tl tl' : List (Addr × Obj)} {pa x : Addr} {p : Pt} (h : PtAt prog w tl pa p) (k : Keeps tl tl') (hd : ∀ o, (pa, o) ∈ tl → pa ≠ x → (pa, o) ∈ tl') (hx : pa ≠ x) : PtAt prog w tl' pa p := by
  cases h with
  | mk a b c d e => exact .mk (hd _ a hx) b (k _ _ c ⟨_, _, rfl⟩) (k _ _ d ⟨_, _, rfl⟩) (e.keep k)
theorem PtVals.keep {prog : Program} {w : World} {tl tl' : List (Addr × Obj)} {x : Addr} {vs : List Value} {ps : List Pt} (h : PtVals prog w tl vs ps) (k : Keeps tl tl') (hd : ∀ a o, (a, o) ∈ tl → a ≠ x → (a, o) ∈ tl') (hx : Value.ref x ∉ vs) : PtVals prog w tl' vs ps := by
  induction h with
  | nil => exact .nil
  | @cons pa vs p ps a _ ih =>
    have h1 : pa ≠ x := fun e => hx (e ▸ List.mem_cons_self ..)
    exact .cons (a.keep k (hd _) h1) (ih fun h => hx (List.mem_cons_of_mem _ h))
theorem keeps_one {prog : Program} {w : World} {h₀ h : Heap} {L x : Addr} {o o' : Obj} {l tl : List (Addr × Obj)} {kvs : List (Str × Value)} (N : News h₀ L h l) (hs : ∀ p ∈ tl, p ∈ l) (hx : (x, o) ∈ tl) (hd : o.IsDictOf (strKind prog w) kvs) : Keeps tl ((x, o') :: tl.filter fun p => decide (p.1 ≠ x)) := fun y u hy hc => by
  have h1 : y ≠ x := fun e => by
    subst e
    have e1 := (N _ (hs _ hx)).1
    have e2 := (N _ (hs _ hy)).1
    simp only [e1, Option.some.injEq] at e2
    obtain ⟨es, ep, _, h9, _⟩ := hd
    obtain ⟨l9, n9, hc⟩ := hc
    rw [← e2, h9] at hc
    exact nomatch hc
  exact .tail _ (List.mem_filter.mpr ⟨hy, decide_eq_true h1⟩)
theorem keeps_ext {prog : Program} {w : World} {h₀ h : Heap} {L x : Addr} {o o' : Obj} {p : Addr × Obj} {l tl : List (Addr × Obj)} {kvs : List (Str × Value)} (N : News h₀ L h l) (hs : ∀ p ∈ tl, p ∈ l) (hx : (x, o) ∈ tl) (hd : o.IsDictOf (strKind prog w) kvs) (hp : p ∈ tl) (hn : ∀ es ep, p.2.data ≠ .dict es ep) : p ∈ ((x, o') :: tl.filter fun p => decide (p.1 ≠ x)) := by
  have h1 : p.1 ≠ x := fun e => by
    have e1 := (N _ (hs _ hx)).1
    have e2 := (N _ (hs _ hp)).1
    rw [e, e1, Option.some.injEq] at e2
    obtain ⟨es, ep, _, h9, _⟩ := hd
    exact hn es ep (e2 ▸ h9)
  exact .tail _ (List.mem_filter.mpr ⟨hp, decide_eq_true h1⟩)
theorem pch_gv {c : Value} {gv rest : List Value} {x : Value} {k j : Nat} (hk : k = j + 1) (h : gv[j]? = some x) : (c :: (gv ++ rest))[k]? = some x := by
  rw [hk, List.getElem?_cons_succ, List.getElem?_append_left (List.getElem?_eq_some_iff.mp h).1]; exact h
theorem PtVals.fresh {prog : Program} {w : World} {tl : List (Addr × Obj)} {vs : List Value} {ps : List Pt} {d : Addr} (h : PtVals prog w tl vs ps) (hd : ∀ p ∈ tl, @LT.lt Nat _ p.1 d) : Value.ref d ∉ vs := by
  induction h with
  | nil => simp
  | @cons pa vs p ps a _ ih =>
    intro hm
    rcases List.mem_cons.mp hm with e | hm
    · cases a with
      | mk a1 _ _ _ _ =>
        have h1 := hd _ a1
        injection e with e
        subst e
        exact Nat.lt_irrefl _ h1
    · exact ih hm
theorem At.set_ne {l : List Value} {i k : Int} {v x : Value} (ha : At l k x) (hk : k ≠ i) (h0 : 0 ≤ i) : At (l.set i.toNat v) k x := ⟨ha.1, ha.2.1, by
  have := ha.1
  rw [List.getElem?_set_ne (by omega)]; exact ha.2.2⟩
theorem At.set_eq {l : List Value} {i : Int} {v : Value} (h0 : 0 ≤ i) (h : i < l.length) (hb : l.length ≤ 1000000) : At (l.set i.toNat v) i v := ⟨h0, by omega, by
  rw [List.getElem?_set_self (by omega)]⟩
theorem Off.filt {l : List Addr} {x : Addr} {o o' : Obj} {tl : List (Addr × Obj)} (h : Off l tl) (hx : (x, o) ∈ tl) : Off l ((x, o') :: tl.filter fun p => decide (p.1 ≠ x)) := fun p hp q hq => by
  rcases List.mem_cons.mp hp with rfl | hp
  · exact h (x, o) hx q hq
  · exact h p (List.mem_filter.mp hp).1 q hq
theorem Geo.filt {rows md mm sd st hp sk tr xl x : Addr} {o o' : Obj} {tl : List (Addr × Obj)} (G : Geo rows md mm sd st hp sk tr xl tl) (hx : (x, o) ∈ tl) : Geo rows md mm sd st hp sk tr xl ((x, o') :: tl.filter fun p => decide (p.1 ≠ x)) := { G with off := G.off.filt hx }
theorem upd_x {sp rows md mm sd st hp sk tr xl x : Addr} {o c0 c1 c2 c3 c4 c5 c6 c7 c8 c9 : Obj} {tl : List (Addr × Obj)} (hT : Off [rows, md, mm, sd, st, hp, sk, tr, xl] tl) (os : Off [sp] tl) (hx : (x, o) ∈ tl) :
    UpdF x o ((x, o) :: (sp, c0) :: (mm, c1) :: (md, c2) :: (st, c3) :: (sd, c4) :: (sk, c5) :: (hp, c6) :: (tr, c7) :: (xl, c8) :: (rows, c9) :: tl.filter fun p => decide (p.1 ≠ x)) (fun o' => (x, o') :: (sp, c0) :: (mm, c1) :: (md, c2) :: (st, c3) :: (sd, c4) :: (sk, c5) :: (hp, c6) :: (tr, c7) :: (xl, c8) :: (rows, c9) :: tl.filter fun p => decide (p.1 ≠ x)) := by
  have h := hT _ hx
  have h' := os _ hx
  simp only [List.mem_cons, List.not_mem_nil, or_false, forall_eq_or_imp, forall_eq] at h h'
  obtain ⟨h1, h2, h3, h4, h5, h6, h7, h8, h9⟩ := h
  exact UpdF.head (neCons (Ne.symm h') (neCons (Ne.symm h3) (neCons (Ne.symm h2) (neCons (Ne.symm h5) (neCons (Ne.symm h4) (neCons (Ne.symm h7) (neCons (Ne.symm h6) (neCons (Ne.symm h8) (neCons (Ne.symm h9) (neCons (Ne.symm h1) neFilt))))))))))
theorem News.filt {h₀ h : Heap} {L x : Addr} {o : Obj} {a1 a2 a3 a4 a5 a6 a7 a8 a9 s : Addr × Obj} {tl : List (Addr × Obj)} (N : News h₀ L h (a1 :: a2 :: a3 :: a4 :: a5 :: a6 :: a7 :: a8 :: a9 :: s :: tl)) (hx : (x, o) ∈ tl) :
    News h₀ L h ((x, o) :: s :: a1 :: a2 :: a3 :: a4 :: a5 :: a6 :: a7 :: a8 :: a9 :: tl.filter fun p => decide (p.1 ≠ x)) :=
  News.filtI [s, a1, a2, a3, a4, a5, a6, a7, a8, a9] (News.swapG [a1, a2, a3, a4, a5, a6, a7, a8, a9] [s] N) hx
theorem Inv.subH {stk rws : List Value} {tl tl' : List (Addr × Obj)} {hlen hlen' e b cp : Int} {ch : List (Int × List Value)} {pts : List Pt} (I : Inv stk rws tl hlen e b cp ch pts) (h2 : ∀ p ∈ tl, p ∈ tl') (hl : hlen ≤ hlen') : Inv stk rws tl' hlen' e b cp ch pts := by
  obtain ⟨v, hv, v0, v1, vc, vp⟩ := top_ok I.c I.p I.s
  exact I.heap h2 hl (fun p hp => Int.le_trans (vp p hp) v1) (fun c hc => Int.le_trans (vc c hc) v1)
theorem LOK.sv {prog : Program} {w : World} {sp rows md mm sd st hp sk tr xl : Addr} {ext : List (Addr × Obj)} {i : Nat} {q : LSt} (O : LOK prog w sp rows md mm sd st hp sk tr xl ext i q) {vs : List Value} {ns : List Int} {k : Nat} {r : Str → Option Value} (hs : IntsAre vs ns) (hz : vs.length ≤ q.sv.length) : LOK prog w sp rows md mm sd st hp sk tr xl ext i { q with sv := vs, kS := k, rest := r } :=
  ⟨O.hi, ⟨ns, hs⟩, Nat.le_trans hz O.hsz, O.geo, O.hsp, O.osp, O.hca, O.hcv, O.hpa, O.hpv, O.nd, O.inv, O.l1, O.l2, O.l3, O.l4, O.l5, O.l6, O.l7, O.hx⟩
theorem LOK.succ {prog : Program} {w : World} {sp rows md mm sd st hp sk tr xl : Addr} {ext : List (Addr × Obj)} {i : Nat} {q : LSt} (O : LOK prog w sp rows md mm sd st hp sk tr xl ext i q) (hi : i ≤ 23) : LOK prog w sp rows md mm sd st hp sk tr xl ext (i + 1) q :=
  ⟨Nat.succ_le_succ hi, O.hs, O.hsz, O.geo, O.hsp, O.osp, O.hca, O.hcv, O.hpa, O.hpv, O.nd, O.inv, by have := O.l1; omega, Nat.le_succ_of_le O.l2, Nat.le_succ_of_le O.l3, Nat.le_succ_of_le O.l4, Nat.le_succ_of_le O.l5, by have := O.l6; omega, fun p hp => Nat.le_succ_of_le (O.l7 p hp), O.hx⟩
theorem PtsOK.le {stk rws : List Value} {tl : List (Addr × Obj)} {pts : List Pt} {b bound : Int} (h : PtsOK stk rws tl b bound pts) : -1 ≤ b ∧ ∀ q ∈ pts, q.spot ≤ b := by
  cases pts with
  | nil =>
    have h' : b = -1 := h
    exact ⟨by omega, fun q hq => nomatch hq⟩
  | cons p r =>
    obtain ⟨a1, a2, a3, a4, a5, a6, e', b', a7, a8, a9⟩ := h
    have := a7.pos
    refine ⟨by omega, fun q hq => ?_⟩
    rcases List.mem_cons.mp hq with rfl | hq
    · omega
    · have := a6 q hq
      unfold pend at this; omega
theorem PtRow.heap {stk : List Value} {p : Pt} {e' b' : Int} (h : PtRow stk p e' b') : ∃ c tc x tx, At stk p.spot (.int c tc) ∧ At stk (p.spot + c + 6) (.int x tx) := by
  obtain ⟨t, h1⟩ := h.n
  obtain ⟨t2, h2⟩ := h.x6
  exact ⟨_, _, _, _, h1, h2⟩
theorem PtsOK.heap {stk rws : List Value} {tl : List (Addr × Obj)} {pts : List Pt} {b bound : Int} (h : PtsOK stk rws tl b bound pts) : b < 0 ∨ ∃ c tc x tx, At stk b (.int c tc) ∧ At stk (b + c + 6) (.int x tx) := by
  cases pts with
  | nil =>
    have h' : b = -1 := h
    exact .inl (by omega)
  | cons p r =>
    obtain ⟨a1, a2, a3, a4, a5, a6, e', b', a7, a8, a9⟩ := h
    exact .inr (a1 ▸ a7.heap)
theorem pick_x {xs gv : List Value} (h0 : 1 ≤ xs.length) (hg : ∀ (j : Nat) (v : Value), gv[j]? = some v → At xs (1 + (j : Int)) v) :
    (slicePick xs.toArray (some 1) (some (1 + (gv.length : Int))) none).toList = gv := by
  have hb : 1 + (gv.length : Int) ≤ xs.length := by
    by_cases e : gv.length = 0
    · omega
    · have hg1 := (hg (gv.length - 1) (gv[gv.length - 1]'(by omega)) (by simp)).lt
      omega
  have e : sliceBounds (some 1) (some (1 + (gv.length : Int))) none xs.toArray.size = (((1 : Nat) : Int), ((1 + gv.length : Nat) : Int), 1) := by
    rw [List.size_toArray, bounds_two (by omega) (by omega) (by omega) hb]
    rfl
  rw [kmk_pick_nat _ e]
  rw [show 1 + gv.length - 1 = gv.length by omega]
  show (xs.drop 1).take gv.length = gv
  apply List.ext_getElem?
  intro j
  by_cases hj : j < gv.length
  · rw [List.getElem?_take_of_lt hj, List.getElem?_drop]
    have hg1 := (hg j gv[j] (by simp [hj])).2.2
    rw [show (1 + (j : Int)).toNat = 1 + j by omega] at hg1
    rw [hg1]; simp [hj]
  · rw [List.getElem?_eq_none (by simp; omega), List.getElem?_eq_none (by omega)]
theorem bounds_up {i : Int} {n : Nat} (h0 : 0 ≤ i) (hi : i ≤ n) : sliceBounds (some i) none none n = (i, (n : Int), 1) := by
  unfold sliceBounds
  have e1 : ¬ i < 0 := by omega
  simp [e1]
  omega
theorem pick_drop {vs : List Value} {i : Int} (h0 : 0 ≤ i) (hi : i ≤ vs.length) : (slicePick vs.toArray (some i) none none).toList = vs.drop i.toNat := by
  have e : sliceBounds (some i) none none vs.toArray.size = (((i.toNat : Nat) : Int), ((vs.length : Nat) : Int), 1) := by
    rw [List.size_toArray, bounds_up h0 hi]
    congr 1
    omega
  rw [kmk_pick_nat _ e]
  show (vs.drop i.toNat).take (vs.length - i.toNat) = vs.drop i.toNat
  exact List.take_of_length_le (by simp)
theorem ChainVals.drop {tl : List (Addr × Obj)} {vs : List Value} {ch : List (Int × List Value)} (h : ChainVals tl vs ch) (n : Nat) : ChainVals tl (vs.drop n) (ch.drop n) := by
  induction h generalizing n with
  | nil => simpa using ChainVals.nil
  | cons a b c ih =>
    cases n with
    | zero => exact .cons a b c
    | succ n => simpa using ih n
theorem PtVals.drop {prog : Program} {w : World} {tl : List (Addr × Obj)} {vs : List Value} {ps : List Pt} (h : PtVals prog w tl vs ps) (n : Nat) : PtVals prog w tl (vs.drop n) (ps.drop n) := by
  induction h generalizing n with
  | nil => simpa using PtVals.nil
  | cons a c ih =>
    cases n with
    | zero => exact .cons a c
    | succ n => simpa using ih n
theorem M1_start {σ : Type} {x n : Str} {f : σ → Value} {m₀ : Str → Option Value} {q : σ} (h : m₀ n = some (f q)) : ∀ y, y ≠ x → m₀ y = M1 n f m₀ q y := fun y _ => by
  dsimp only [M1]
  by_cases e1 : y = n
  · rw [if_pos e1, e1, h]
  · rw [if_neg e1]
theorem News.b6 {h₀ h : Heap} {L : Addr} {a1 a2 a3 a4 a5 a6 a7 a8 a9 u1 u2 s : Addr × Obj} {tl : List (Addr × Obj)} (N : News h₀ L h (a1 :: a2 :: a3 :: a4 :: a5 :: a6 :: a7 :: a8 :: a9 :: u1 :: u2 :: s :: tl)) : News h₀ L h (s :: a1 :: a2 :: a3 :: a4 :: a5 :: a6 :: a7 :: a8 :: a9 :: u2 :: tl) := News.pick [a1, a2, a3, a4, a5, a6, a7, a8, a9, u1, u2, s] [s, a1, a2, a3, a4, a5, a6, a7, a8, a9, u2] [11, 0, 1, 2, 3, 4, 5, 6, 7, 8, 10] N rfl
theorem News.b3 {h₀ h : Heap} {L : Addr} {u1 u2 u3 a1 a2 a3 a4 a5 a6 a7 a8 a9 s v1 : Addr × Obj} {tl : List (Addr × Obj)} (N : News h₀ L h (u1 :: u2 :: u3 :: a1 :: a2 :: a3 :: a4 :: a5 :: a6 :: a7 :: a8 :: a9 :: s :: v1 :: tl)) : News h₀ L h (s :: a1 :: a2 :: a3 :: a4 :: a5 :: a6 :: a7 :: a8 :: a9 :: u1 :: u2 :: u3 :: v1 :: tl) := News.pick [u1, u2, u3, a1, a2, a3, a4, a5, a6, a7, a8, a9, s, v1] [s, a1, a2, a3, a4, a5, a6, a7, a8, a9, u1, u2, u3, v1] [12, 3, 4, 5, 6, 7, 8, 9, 10, 11, 0, 1, 2, 13] N rfl
theorem News.p0 {h₀ h : Heap} {L : Addr} {u1 s a1 a2 a3 a4 a5 a6 a7 a8 a9 : Addr × Obj} {tl : List (Addr × Obj)} (N : News h₀ L h (u1 :: s :: a1 :: a2 :: a3 :: a4 :: a5 :: a6 :: a7 :: a8 :: a9 :: tl)) : News h₀ L h (s :: a1 :: a2 :: a3 :: a4 :: a5 :: a6 :: a7 :: a8 :: a9 :: u1 :: tl) := News.pick [u1, s, a1, a2, a3, a4, a5, a6, a7, a8, a9] [s, a1, a2, a3, a4, a5, a6, a7, a8, a9, u1] [1, 2, 3, 4, 5, 6, 7, 8, 9, 10, 0] N rfl
theorem News.p1 {h₀ h : Heap} {L : Addr} {u1 a1 a2 a3 a4 a5 a6 a7 a8 a9 s : Addr × Obj} {tl : List (Addr × Obj)} (N : News h₀ L h (u1 :: a1 :: a2 :: a3 :: a4 :: a5 :: a6 :: a7 :: a8 :: a9 :: s :: tl)) : News h₀ L h (s :: a1 :: a2 :: a3 :: a4 :: a5 :: a6 :: a7 :: a8 :: a9 :: u1 :: tl) := News.pick [u1, a1, a2, a3, a4, a5, a6, a7, a8, a9, s] [s, a1, a2, a3, a4, a5, a6, a7, a8, a9, u1] [10, 1, 2, 3, 4, 5, 6, 7, 8, 9, 0] N rfl
theorem News.b1 {h₀ h : Heap} {L : Addr} {u1 u2 u3 a1 a2 a3 a4 a5 a6 a7 a8 a9 v1 v2 s : Addr × Obj} {tl : List (Addr × Obj)} (N : News h₀ L h (u1 :: u2 :: u3 :: a1 :: a2 :: a3 :: a4 :: a5 :: a6 :: a7 :: a8 :: a9 :: v1 :: v2 :: s :: tl)) : News h₀ L h (s :: a1 :: a2 :: a3 :: a4 :: a5 :: a6 :: a7 :: a8 :: a9 :: u1 :: u2 :: u3 :: v1 :: v2 :: tl) := News.pick [u1, u2, u3, a1, a2, a3, a4, a5, a6, a7, a8, a9, v1, v2, s] [s, a1, a2, a3, a4, a5, a6, a7, a8, a9, u1, u2, u3, v1, v2] [14, 3, 4, 5, 6, 7, 8, 9, 10, 11, 0, 1, 2, 12, 13] N rfl
end
local macro_rules | `(tactic| walk_at "my_off") => `(tactic| first | assumption | (refine' Off.cons1 ?a ?b; (case a => k_ne); (case b => walk_at "my_off")))
local macro_rules | `(tactic| tb_rel) => `(tactic| first | assumption | exact News.mv1 (by assumption) | exact News.w2 (by assumption) | exact News.w3 (by assumption) | exact News.w4 (by assumption) | exact News.w5 (by assumption))
-- F_b1
section
local macro_rules | `(tactic| walk_at "none such") => `(tactic| skip)
local macro_rules | `(tactic| walk_at "pyIter ref") => `(tactic| (refine Hold.out ?_))
section
variable {prog : Program} {w : World} {A A₀ : Around} {base : Heap} {outer : List Env} {h₀ : Heap} {L fa : Addr} {cdv : Value} {mean : ExcName → Option Value} {mg mb : Str → Option Value} {loose : List Str} {s : Shared} {Q : Flow → Shared → Prop}
  {kt ks : Nat → Tok} {sp sy rows md mm sd st hp sk tr xl ro ba : Addr} {t1 t2 t3 tb0 tmd tms ts1 : Tok} {nt i : Nat} {q : LSt} {ext : List (Addr × Obj)}
  (B : Below A₀ base outer h₀) (F : Fr h₀ L s.heap (LM sp rows mm q.ca q.pa q.mn q.tmn q.rest)) (X : (kK w.params).In h₀) (T : Top kQ loose mean mg mb h₀) (hA : A.frames = some (lenv L fa cdv :: outer)) (hH : A.handled = none) (hd : A.depth ≤ 310) (hu : A.units ≤ 3100)
  (N : News h₀ L s.heap ((sp, W.listOf q.sv.toArray q.kS) :: ((mm, instObj 534 md) :: (md, dictOf (mD w kt sy rows st xl ro ba t1 t2 t3 tb0 tmd tms q.cp q.tcp q.e q.te q.b q.tb) 18) :: (st, instObj 374 sd) :: (sd, dictOf (sD w ks sy hp sk tr ts1 q.hbv q.thb q.bbv q.tbb) 7) :: (sk, W.listOf (List.toArray q.stk) q.nk) :: (hp, W.listOf (List.toArray q.hpv) q.nh) :: (tr, W.listOf #[] nt) :: (xl, W.listOf (List.toArray q.xs) q.nx) :: (rows, W.listOf (List.toArray q.rws) q.nr) :: q.tl))) (O : LOK prog w sp rows md mm sd st hp sk tr xl ext i q) (hi9 : i ≤ 23)
include B F X T hA hH hd hu N O hi9
theorem t_b1 (h : ∀ h' tk q', Fr h₀ L h' (LM sp rows mm q'.ca q'.pa q'.mn q'.tmn q'.rest) → News h₀ L h' ((sp, W.listOf q'.sv.toArray q'.kS) :: ((mm, instObj 534 md) :: (md, dictOf (mD w kt sy rows st xl ro ba t1 t2 t3 tb0 tmd tms q'.cp q'.tcp q'.e q'.te q'.b q'.tb) 18) :: (st, instObj 374 sd) :: (sd, dictOf (sD w ks sy hp sk tr ts1 q'.hbv q'.thb q'.bbv q'.tbb) 7) :: (sk, W.listOf (List.toArray q'.stk) q'.nk) :: (hp, W.listOf (List.toArray q'.hpv) q'.nh) :: (tr, W.listOf #[] nt) :: (xl, W.listOf (List.toArray q'.xs) q'.nx) :: (rows, W.listOf (List.toArray q'.rws) q'.nr) :: q'.tl)) → LOK prog w sp rows md mm sd st hp sk tr xl ext (i + 1) q' → Q .next { s with heap := h', toks := tk }) :
    wpAny (model prog w) A (execs br1 (lenv L fa cdv)) Q (fun _ _ => False) s := by
  obtain ⟨hi8, ⟨ns, hs⟩, hsz, geo, hsp, osp, hca, hcv, hpa, hpw, hnd, inv, l1, l2, l3, l4, l5, l6, l7, hx9⟩ := O
  obtain ⟨cp, e, b, hbv, bbv, mn, tcp, te, tb, thb, tbb, tmn, nk, nh, nx, nr, kS, kc, kp, stk, hpv, xs, rws, sv, cvs, pvs, tl, ca, pa, ch, pts, rest⟩ := q
  dsimp only at hs hsz geo osp hca hcv hpa hpw hnd inv l1 l2 l3 l4 l5 l6 l7 hx9 F N
  obtain ⟨o1, o2, o3, o4, o5, o6, o7, o8, hT⟩ := id geo
  obtain ⟨g2, g3, g4, g5, g6, g7, g8⟩ := geo.lts
  have s2 : @LT.lt Nat _ sp md := Nat.lt_trans hsp o1
  have s3 : @LT.lt Nat _ sp mm := Nat.lt_trans s2 o2
  have s4 : @LT.lt Nat _ sp sd := Nat.lt_trans s3 o3
  have s5 : @LT.lt Nat _ sp st := Nat.lt_trans s4 o4
  have s6 : @LT.lt Nat _ sp hp := Nat.lt_trans s5 o5
  have s7 : @LT.lt Nat _ sp sk := Nat.lt_trans s6 o6
  have s8 : @LT.lt Nat _ sp tr := Nat.lt_trans s7 o7
  have s9 : @LT.lt Nat _ sp xl := Nat.lt_trans s8 o8
  have cl1 := hcv.len
  have cl2 := hpw.len
  obtain ⟨v, hv, v0, v1, vc, vp⟩ := top_ok inv.c inv.p inv.s
  show wpAny _ _ (execs _ (envOf _ _ _ _ _)) _ _ _
  delta br1 br1G lname lnameG lscope lscopeG
  repeat' (first | (k_unfold; (try dsimp only)) | ((with_reducible show wpAny _ _ (call (Value.ref _) _) _ _ _); first | ((with_reducible show wpAny _ _ (call (Value.ref 454) _) _ _ _); refine Hold.out ?_) | ((with_reducible show wpAny _ _ (call (Value.ref 454) _) _ _ _); (k_dflt (refine' c_penv ?B ?F ?X ?T ?hA ?hf ?hke ?hH ?hd ?hu ?G ?N ?x0 ?x1 ?x2 ?x3 ?x4 ?x5 ?_; (case N => tb_rel); (case B => k_asm); (case F => k_asm); (case X => k_asm); (case T => k_asm); (case hA => tb_start); (case hf => tb_start); (case hke => tb_start); (case hH => assumption); (case hd => ktr_room); (case hu => ktr_room); (case G => ktr_rel); (case x0 => first | assumption | ((repeat refine len_step (by assumption) ?_ (by rfl)); exact Nat.le_of_ble_eq_true (by rfl)) | omega); (case x1 => first | assumption | ((repeat refine len_step (by assumption) ?_ (by rfl)); exact Nat.le_of_ble_eq_true (by rfl)) | omega); (case x2 => first | assumption | ((repeat refine len_step (by assumption) ?_ (by rfl)); exact Nat.le_of_ble_eq_true (by rfl)) | omega); (case x3 => first | assumption | ((repeat refine len_step (by assumption) ?_ (by rfl)); exact Nat.le_of_ble_eq_true (by rfl)) | omega); (case x4 => first | assumption | ((repeat refine len_step (by assumption) ?_ (by rfl)); exact Nat.le_of_ble_eq_true (by rfl)) | omega); (case x5 => first | assumption | ((repeat refine len_step (by assumption) ?_ (by rfl)); exact Nat.le_of_ble_eq_true (by rfl)) | omega); k_whole); (try dsimp only); intro _ _ _ _ _ _ _ _; (try k_sweep))) | ((with_reducible show wpAny _ _ (call (Value.ref 447) _) _ _ _); (k_dflt (refine' c_top ?B ?F ?X ?T ?hA ?hf ?hke ?hH ?hd ?hu ?G ?N ?x0 ?_; (case N => tb_rel); (case B => k_asm); (case F => k_asm); (case X => k_asm); (case T => k_asm); (case hA => tb_start); (case hf => tb_start); (case hke => tb_start); (case hH => assumption); (case hd => ktr_room); (case hu => ktr_room); (case G => ktr_rel); (case x0 => first | assumption | ((repeat refine len_step (by assumption) ?_ (by rfl)); exact Nat.le_of_ble_eq_true (by rfl)) | omega); k_whole); (try dsimp only); intro _ _ _ _ _; (try k_sweep))) | ((with_reducible show wpAny _ _ (call (Value.ref 279) _) _ _ _); (k_dflt (refine' c_put ?B ?F ?X ?T ?hA ?hf ?hke ?hH ?hd ?hu ?G ?N ?x0 ?x1 ?x2 ?_; (case N => tb_rel); (case B => k_asm); (case F => k_asm); (case X => k_asm); (case T => k_asm); (case hA => tb_start); (case hf => tb_start); (case hke => tb_start); (case hH => assumption); (case hd => ktr_room); (case hu => ktr_room); (case G => ktr_rel); (case x0 => first | assumption | ((repeat refine len_step (by assumption) ?_ (by rfl)); exact Nat.le_of_ble_eq_true (by rfl)) | omega); (case x1 => first | assumption | ((repeat refine len_step (by assumption) ?_ (by rfl)); exact Nat.le_of_ble_eq_true (by rfl)) | omega); (case x2 => first | assumption | ((repeat refine len_step (by assumption) ?_ (by rfl)); exact Nat.le_of_ble_eq_true (by rfl)) | omega); k_whole); (try dsimp only); intro _ _ _ _ _ _ _ _ _ _; (try k_sweep))) | ((with_reducible show wpAny _ _ (call (Value.ref 552) _) _ _ _); (k_dflt (refine' c_choose ?B ?F ?X ?T ?hA ?hf ?hke ?hH ?hd ?hu ?N ?x0 ?x1 ?x2 ?x3 ?x4 ?_; (case N => first | assumption | exact News.sw (by assumption) | exact News.mv9 (by assumption) | exact News.mv9 (News.tail9' (by assumption))); (case B => k_asm); (case F => k_asm); (case X => k_asm); (case T => k_asm); (case hA => tb_start); (case hf => tb_start); (case hke => tb_start); (case hH => assumption); (case hd => ktr_room); (case hu => ktr_room); (case x0 => walk_at "my_off"); (case x1 => assumption); (case x2 => omega); (case x3 => omega); (case x4 => omega); k_whole); (try dsimp only); intro _ _ _ _ _ _ _ _ _ _ _ _ _; (try k_sweep)))) | ((with_reducible show wpAny _ _ (compareOp .NotEq (.ref _) (.ref _)) _ _ _); k_dflt (refine' my_ne_nil ?N ?a ?b ?u ?_ ?_; (case N => k_asm); (case a => walk_at "my_mem"); (case b => exact .head _); (case u => (show _ < _); k_units); k_whole) <;> intro _) | ((with_reducible show wpAny _ _ (binaryOp .Add (.ref _) (.ref _)) _ _ _); k_dflt (refine' my_cat1 ?F ?N ?a ?b ?z ?_; (case F => k_asm); (case N => k_asm); (case a => walk_at "my_mem"); (case b => walk_at "my_mem"); (case z => omega)); intro _ _ _ _ l1; (try k_lt l1); revert l1; intro _; (try k_sweep)) | ((with_reducible show wpAny _ _ (subscriptTail _ _ (Value.ref _) (Value.int _ _)) _ _ _); k_dflt (refine' my_sub ?k1 ?k2 ?k3 ?_ ?k4; (case k1 => k_asm); (case k2 => walk_at "my_mem"); (case k3 => first | assumption | exact At.cast (by assumption) (by omega) | exact At.last (by omega) (by omega)); (case k4 => with_unfolding_all rfl); k_whole)) | ((with_reducible show wpAny _ _ (call (Value.builtin "len") [Value.ref _]) _ _ _); k_dflt (refine' my_len ?k1 ?k2 ?k3 ?_; (case k1 => k_asm); (case k2 => walk_at "my_mem"); (case k3 => omega); k_whole); intro _) | walk1 | (dsimp only; walk1) | (leave1; walk_say "STEP leave1"; try dsimp only) | fail "no step")
  refine Hold.mk ?_
  rename_i hA tkA vsA nsA kA z tz hiA hzA hz0 hz1 hB F1 N1
  have hv' : TopIs e b cp stk rws ((sp, W.listOf vsA.toArray kA) :: tl) v := hv.mono (fun _ hp => .tail _ hp)
  (k_dflt (refine' c_penv ?B ?F ?X ?T ?hA ?hf ?hke ?hH ?hd ?hu ?G ?N ?x0 ?x1 ?x2 ?x3 ?x4 ?x5 ?_; (case N => tb_rel); (case B => k_asm); (case F => k_asm); (case X => k_asm); (case T => k_asm); (case hA => tb_start); (case hf => tb_start); (case hke => tb_start); (case hH => assumption); (case hd => ktr_room); (case hu => ktr_room); (case G => ktr_rel); (case x0 => exact hv'); (case x1 => assumption); (case x2 => assumption); (case x3 => omega); (case x4 => assumption); (case x5 => omega); k_whole); (try dsimp only); intro h1 tk1 te1 stk1 nk1 hs1 F1 N1; (try k_sweep))
  repeat' (first | (k_unfold; (try dsimp only)) | ((with_reducible show wpAny _ _ (call (Value.ref _) _) _ _ _); first | ((with_reducible show wpAny _ _ (call (Value.ref 454) _) _ _ _); refine Hold.out ?_) | ((with_reducible show wpAny _ _ (call (Value.ref 454) _) _ _ _); (k_dflt (refine' c_penv ?B ?F ?X ?T ?hA ?hf ?hke ?hH ?hd ?hu ?G ?N ?x0 ?x1 ?x2 ?x3 ?x4 ?x5 ?_; (case N => tb_rel); (case B => k_asm); (case F => k_asm); (case X => k_asm); (case T => k_asm); (case hA => tb_start); (case hf => tb_start); (case hke => tb_start); (case hH => assumption); (case hd => ktr_room); (case hu => ktr_room); (case G => ktr_rel); (case x0 => first | assumption | ((repeat refine len_step (by assumption) ?_ (by rfl)); exact Nat.le_of_ble_eq_true (by rfl)) | omega); (case x1 => first | assumption | ((repeat refine len_step (by assumption) ?_ (by rfl)); exact Nat.le_of_ble_eq_true (by rfl)) | omega); (case x2 => first | assumption | ((repeat refine len_step (by assumption) ?_ (by rfl)); exact Nat.le_of_ble_eq_true (by rfl)) | omega); (case x3 => first | assumption | ((repeat refine len_step (by assumption) ?_ (by rfl)); exact Nat.le_of_ble_eq_true (by rfl)) | omega); (case x4 => first | assumption | ((repeat refine len_step (by assumption) ?_ (by rfl)); exact Nat.le_of_ble_eq_true (by rfl)) | omega); (case x5 => first | assumption | ((repeat refine len_step (by assumption) ?_ (by rfl)); exact Nat.le_of_ble_eq_true (by rfl)) | omega); k_whole); (try dsimp only); intro _ _ _ _ _ _ _ _; (try k_sweep))) | ((with_reducible show wpAny _ _ (call (Value.ref 447) _) _ _ _); (k_dflt (refine' c_top ?B ?F ?X ?T ?hA ?hf ?hke ?hH ?hd ?hu ?G ?N ?x0 ?_; (case N => tb_rel); (case B => k_asm); (case F => k_asm); (case X => k_asm); (case T => k_asm); (case hA => tb_start); (case hf => tb_start); (case hke => tb_start); (case hH => assumption); (case hd => ktr_room); (case hu => ktr_room); (case G => ktr_rel); (case x0 => first | assumption | ((repeat refine len_step (by assumption) ?_ (by rfl)); exact Nat.le_of_ble_eq_true (by rfl)) | omega); k_whole); (try dsimp only); intro _ _ _ _ _; (try k_sweep))) | ((with_reducible show wpAny _ _ (call (Value.ref 279) _) _ _ _); (k_dflt (refine' c_put ?B ?F ?X ?T ?hA ?hf ?hke ?hH ?hd ?hu ?G ?N ?x0 ?x1 ?x2 ?_; (case N => tb_rel); (case B => k_asm); (case F => k_asm); (case X => k_asm); (case T => k_asm); (case hA => tb_start); (case hf => tb_start); (case hke => tb_start); (case hH => assumption); (case hd => ktr_room); (case hu => ktr_room); (case G => ktr_rel); (case x0 => first | assumption | ((repeat refine len_step (by assumption) ?_ (by rfl)); exact Nat.le_of_ble_eq_true (by rfl)) | omega); (case x1 => first | assumption | ((repeat refine len_step (by assumption) ?_ (by rfl)); exact Nat.le_of_ble_eq_true (by rfl)) | omega); (case x2 => first | assumption | ((repeat refine len_step (by assumption) ?_ (by rfl)); exact Nat.le_of_ble_eq_true (by rfl)) | omega); k_whole); (try dsimp only); intro _ _ _ _ _ _ _ _ _ _; (try k_sweep))) | ((with_reducible show wpAny _ _ (call (Value.ref 552) _) _ _ _); (k_dflt (refine' c_choose ?B ?F ?X ?T ?hA ?hf ?hke ?hH ?hd ?hu ?N ?x0 ?x1 ?x2 ?x3 ?x4 ?_; (case N => first | assumption | exact News.sw (by assumption) | exact News.mv9 (by assumption) | exact News.mv9 (News.tail9' (by assumption))); (case B => k_asm); (case F => k_asm); (case X => k_asm); (case T => k_asm); (case hA => tb_start); (case hf => tb_start); (case hke => tb_start); (case hH => assumption); (case hd => ktr_room); (case hu => ktr_room); (case x0 => walk_at "my_off"); (case x1 => assumption); (case x2 => omega); (case x3 => omega); (case x4 => omega); k_whole); (try dsimp only); intro _ _ _ _ _ _ _ _ _ _ _ _ _; (try k_sweep)))) | ((with_reducible show wpAny _ _ (compareOp .NotEq (.ref _) (.ref _)) _ _ _); k_dflt (refine' my_ne_nil ?N ?a ?b ?u ?_ ?_; (case N => k_asm); (case a => walk_at "my_mem"); (case b => exact .head _); (case u => (show _ < _); k_units); k_whole) <;> intro _) | ((with_reducible show wpAny _ _ (binaryOp .Add (.ref _) (.ref _)) _ _ _); k_dflt (refine' my_cat1 ?F ?N ?a ?b ?z ?_; (case F => k_asm); (case N => k_asm); (case a => walk_at "my_mem"); (case b => walk_at "my_mem"); (case z => omega)); intro _ _ _ _ l1; (try k_lt l1); revert l1; intro _; (try k_sweep)) | ((with_reducible show wpAny _ _ (subscriptTail _ _ (Value.ref _) (Value.int _ _)) _ _ _); k_dflt (refine' my_sub ?k1 ?k2 ?k3 ?_ ?k4; (case k1 => k_asm); (case k2 => walk_at "my_mem"); (case k3 => first | assumption | exact At.cast (by assumption) (by omega) | exact At.last (by omega) (by omega)); (case k4 => with_unfolding_all rfl); k_whole)) | ((with_reducible show wpAny _ _ (call (Value.builtin "len") [Value.ref _]) _ _ _); k_dflt (refine' my_len ?k1 ?k2 ?k3 ?_; (case k1 => k_asm); (case k2 => walk_at "my_mem"); (case k3 => omega); k_whole); intro _) | walk1 | (dsimp only; walk1) | (leave1; walk_say "STEP leave1"; try dsimp only) | fail "no step")
  refine Hold.mk ?_
  rename_i rt hC l1a hD tkB tB hE tkC fl hF l1b hG gH tkD tR uR vR R9 F9 N9 a9
  obtain ⟨tc9, t09, n9, N9b⟩ : ∃ tc t0 n, News h₀ L _ (((mm, instObj 534 md) :: (md, dictOf (mD w kt sy rows st xl ro ba t1 t2 t3 tb0 tmd tms ((rws ++ [Value.ref rt]).length : Int) tB v te1 b tb) 18) :: (st, instObj 374 sd) :: (sd, dictOf (sD w ks sy hp sk tr ts1 hbv thb bbv tbb) 7) :: (sk, W.listOf (List.toArray stk1) nk1) :: (hp, W.listOf (List.toArray hpv) nh) :: (tr, W.listOf #[] nt) :: (xl, W.listOf (List.toArray xs) nx) :: (rows, W.listOf (List.toArray (rws ++ [Value.ref rt])) (nr + 1)) :: (fl, W.listOf (List.toArray []) 0) :: (rt, tupOf [Value.str "call" tc, Value.int 0 t0, Value.int z tz] n) :: (sp, W.listOf vsA.toArray kA) :: tl)) := ⟨_, _, _, News.w2 N9⟩
  clear N9
  have zl := putL_len (Value.int e te :: Value.int cp tcp :: List.replicate z.toNat (Value.ref 180)) stk v v0 v1
  rw [← hs1] at zl
  simp only [List.length_cons, List.length_replicate] at zl
  refine' rangeS (n := z.toNat) (M1 (Str.ofString "mark_no") (fun (q : List Value × Nat × Int × Tok × List Value × Nat) => Value.int q.2.2.1 q.2.2.2.1) _) (fun q : List Value × Nat × Int × Tok × List Value × Nat => ((mm, instObj 534 md) :: (md, dictOf (mD w kt sy rows st xl ro ba t1 t2 t3 tb0 tmd tms ((rws ++ [Value.ref rt]).length : Int) tB v te1 b tb) 18) :: (st, instObj 374 sd) :: (sd, dictOf (sD w ks sy hp sk tr ts1 hbv thb bbv tbb) 7) :: (sk, W.listOf (List.toArray q.1) q.2.1) :: (hp, W.listOf (List.toArray hpv) nh) :: (tr, W.listOf #[] nt) :: (xl, W.listOf (List.toArray xs) nx) :: (rows, W.listOf (List.toArray (rws ++ [Value.ref rt])) (nr + 1)) :: (fl, W.listOf (List.toArray q.2.2.2.2.1) q.2.2.2.2.2) :: (rt, tupOf [Value.str "call" tc9, Value.int 0 t09, Value.int z tz] n9) :: (sp, W.listOf vsA.toArray kA) :: tl))
    (fun i q => (∀ k x, k < v + 2 → At stk1 k x → At q.1 k x) ∧ RowIn q.1 (v, q.2.2.2.2.1) ∧ q.2.2.2.2.1.length = i ∧ v + 2 + z ≤ q.1.length ∧ q.1.length ≤ stk1.length) (stk1, nk1, mn, tmn, [], 0) hH R9 (small1 hz0 (by omega)) (size1 hz0) F9 N9b (M1_start rfl) rfl ⟨fun _ _ _ h => h, (fun j x hj => by simp at hj), rfl, by dsimp only; omega, Nat.le_refl _⟩ ?turn ?done
  case turn =>
    rintro i2 ⟨stkB, nkB, mnB, tmB, fvB, kB⟩ t h' tk' I it hi' ⟨p1, p2, p3, p4, p5⟩ ho hI F' N'
    k_lt hI
    dsimp only [envOf, M1] at p1 p2 p3 p4 p5 ho F' N'
    clear N9b F9
    repeat' (first | (k_unfold; (try dsimp only)) | ((with_reducible show wpAny _ _ (call (Value.ref _) _) _ _ _); first | ((with_reducible show wpAny _ _ (call (Value.ref 454) _) _ _ _); refine Hold.out ?_) | ((with_reducible show wpAny _ _ (call (Value.ref 454) _) _ _ _); (k_dflt (refine' c_penv ?B ?F ?X ?T ?hA ?hf ?hke ?hH ?hd ?hu ?G ?N ?x0 ?x1 ?x2 ?x3 ?x4 ?x5 ?_; (case N => tb_rel); (case B => k_asm); (case F => k_asm); (case X => k_asm); (case T => k_asm); (case hA => tb_start); (case hf => tb_start); (case hke => tb_start); (case hH => assumption); (case hd => ktr_room); (case hu => ktr_room); (case G => ktr_rel); (case x0 => first | assumption | ((repeat refine len_step (by assumption) ?_ (by rfl)); exact Nat.le_of_ble_eq_true (by rfl)) | omega); (case x1 => first | assumption | ((repeat refine len_step (by assumption) ?_ (by rfl)); exact Nat.le_of_ble_eq_true (by rfl)) | omega); (case x2 => first | assumption | ((repeat refine len_step (by assumption) ?_ (by rfl)); exact Nat.le_of_ble_eq_true (by rfl)) | omega); (case x3 => first | assumption | ((repeat refine len_step (by assumption) ?_ (by rfl)); exact Nat.le_of_ble_eq_true (by rfl)) | omega); (case x4 => first | assumption | ((repeat refine len_step (by assumption) ?_ (by rfl)); exact Nat.le_of_ble_eq_true (by rfl)) | omega); (case x5 => first | assumption | ((repeat refine len_step (by assumption) ?_ (by rfl)); exact Nat.le_of_ble_eq_true (by rfl)) | omega); k_whole); (try dsimp only); intro _ _ _ _ _ _ _ _; (try k_sweep))) | ((with_reducible show wpAny _ _ (call (Value.ref 447) _) _ _ _); (k_dflt (refine' c_top ?B ?F ?X ?T ?hA ?hf ?hke ?hH ?hd ?hu ?G ?N ?x0 ?_; (case N => tb_rel); (case B => k_asm); (case F => k_asm); (case X => k_asm); (case T => k_asm); (case hA => tb_start); (case hf => tb_start); (case hke => tb_start); (case hH => assumption); (case hd => ktr_room); (case hu => ktr_room); (case G => ktr_rel); (case x0 => first | assumption | ((repeat refine len_step (by assumption) ?_ (by rfl)); exact Nat.le_of_ble_eq_true (by rfl)) | omega); k_whole); (try dsimp only); intro _ _ _ _ _; (try k_sweep))) | ((with_reducible show wpAny _ _ (call (Value.ref 279) _) _ _ _); (k_dflt (refine' c_put ?B ?F ?X ?T ?hA ?hf ?hke ?hH ?hd ?hu ?G ?N ?x0 ?x1 ?x2 ?_; (case N => tb_rel); (case B => k_asm); (case F => k_asm); (case X => k_asm); (case T => k_asm); (case hA => tb_start); (case hf => tb_start); (case hke => tb_start); (case hH => assumption); (case hd => ktr_room); (case hu => ktr_room); (case G => ktr_rel); (case x0 => first | assumption | ((repeat refine len_step (by assumption) ?_ (by rfl)); exact Nat.le_of_ble_eq_true (by rfl)) | omega); (case x1 => first | assumption | ((repeat refine len_step (by assumption) ?_ (by rfl)); exact Nat.le_of_ble_eq_true (by rfl)) | omega); (case x2 => first | assumption | ((repeat refine len_step (by assumption) ?_ (by rfl)); exact Nat.le_of_ble_eq_true (by rfl)) | omega); k_whole); (try dsimp only); intro _ _ _ _ _ _ _ _ _ _; (try k_sweep))) | ((with_reducible show wpAny _ _ (call (Value.ref 552) _) _ _ _); (k_dflt (refine' c_choose ?B ?F ?X ?T ?hA ?hf ?hke ?hH ?hd ?hu ?N ?x0 ?x1 ?x2 ?x3 ?x4 ?_; (case N => first | assumption | exact News.sw (by assumption) | exact News.mv9 (by assumption) | exact News.mv9 (News.tail9' (by assumption))); (case B => k_asm); (case F => k_asm); (case X => k_asm); (case T => k_asm); (case hA => tb_start); (case hf => tb_start); (case hke => tb_start); (case hH => assumption); (case hd => ktr_room); (case hu => ktr_room); (case x0 => walk_at "my_off"); (case x1 => assumption); (case x2 => omega); (case x3 => omega); (case x4 => omega); k_whole); (try dsimp only); intro _ _ _ _ _ _ _ _ _ _ _ _ _; (try k_sweep)))) | ((with_reducible show wpAny _ _ (compareOp .NotEq (.ref _) (.ref _)) _ _ _); k_dflt (refine' my_ne_nil ?N ?a ?b ?u ?_ ?_; (case N => k_asm); (case a => walk_at "my_mem"); (case b => exact .head _); (case u => (show _ < _); k_units); k_whole) <;> intro _) | ((with_reducible show wpAny _ _ (binaryOp .Add (.ref _) (.ref _)) _ _ _); k_dflt (refine' my_cat1 ?F ?N ?a ?b ?z ?_; (case F => k_asm); (case N => k_asm); (case a => walk_at "my_mem"); (case b => walk_at "my_mem"); (case z => omega)); intro _ _ _ _ l1; (try k_lt l1); revert l1; intro _; (try k_sweep)) | ((with_reducible show wpAny _ _ (subscriptTail _ _ (Value.ref _) (Value.int _ _)) _ _ _); k_dflt (refine' my_sub ?k1 ?k2 ?k3 ?_ ?k4; (case k1 => k_asm); (case k2 => walk_at "my_mem"); (case k3 => first | assumption | exact At.cast (by assumption) (by omega) | exact At.last (by omega) (by omega)); (case k4 => with_unfolding_all rfl); k_whole)) | ((with_reducible show wpAny _ _ (call (Value.builtin "len") [Value.ref _]) _ _ _); k_dflt (refine' my_len ?k1 ?k2 ?k3 ?_; (case k1 => k_asm); (case k2 => walk_at "my_mem"); (case k3 => omega); k_whole); intro _) | walk1 | (dsimp only; walk1) | (leave1; walk_say "STEP leave1"; try dsimp only) | fail "no step")
    rename_i T hP l1c hR hS tkE stkC nkC hC hC1 hC2 hC3 F3 N3
    have q0 : 0 ≤ v + 2 + (0 + (i2 : Int)) := by omega
    have q1 : v + 2 + (0 + (i2 : Int)) ≤ stkB.length := by omega
    have q2 : stkC.length = stkB.length := by rw [hC, putS_lt (by omega), List.length_set]
    refine LpEnd.intro (stkC, nkC, mnB + 1, _, fvB ++ [Value.ref T], kB + 1) F3 nm1 (News.mv9 (News.tail9' (News.mv9 N3))) (off_same ho) ⟨fun k x hk hx => ?_, fun j x hj => ?_, by simp [p3], by dsimp only; omega, by dsimp only; omega⟩
    · show At stkC k x
      rw [hC]
      exact At.put_ne q0 q1 (p1 k x hk hx) (by omega)
    · show At stkC (v + 2 + (j : Int)) x
      have hj : (fvB ++ [Value.ref T])[j]? = some x := hj
      rw [hC]
      by_cases hlt : j < fvB.length
      · rw [List.getElem?_append_left hlt] at hj
        exact At.put_ne q0 q1 (p2 j x hj) (by dsimp only at *; omega)
      · have hj9 : j < (fvB ++ [Value.ref T]).length := (List.getElem?_eq_some_iff.mp hj).1
        rw [List.length_append, List.length_singleton] at hj9
        have e9 : j = fvB.length := by omega
        subst e9
        simp only [List.getElem?_concat_length, Option.some.injEq] at hj
        subst hj
        exact At.cast (At.put_eq q0 q1 (by omega)) (by omega)
  case done =>
    rintro ⟨stkB, nkB, mnB, tmB, fvB, kB⟩ u h' tk' ⟨p1, p2, p3, p4, p5⟩ F' N'
    dsimp only [envOf, M1] at p1 p2 p3 p4 p5 F' N'
    clear N9b F9
    repeat' (first | (k_unfold; (try dsimp only)) | ((with_reducible show wpAny _ _ (call (Value.ref _) _) _ _ _); first | ((with_reducible show wpAny _ _ (call (Value.ref 454) _) _ _ _); refine Hold.out ?_) | ((with_reducible show wpAny _ _ (call (Value.ref 454) _) _ _ _); (k_dflt (refine' c_penv ?B ?F ?X ?T ?hA ?hf ?hke ?hH ?hd ?hu ?G ?N ?x0 ?x1 ?x2 ?x3 ?x4 ?x5 ?_; (case N => tb_rel); (case B => k_asm); (case F => k_asm); (case X => k_asm); (case T => k_asm); (case hA => tb_start); (case hf => tb_start); (case hke => tb_start); (case hH => assumption); (case hd => ktr_room); (case hu => ktr_room); (case G => ktr_rel); (case x0 => first | assumption | ((repeat refine len_step (by assumption) ?_ (by rfl)); exact Nat.le_of_ble_eq_true (by rfl)) | omega); (case x1 => first | assumption | ((repeat refine len_step (by assumption) ?_ (by rfl)); exact Nat.le_of_ble_eq_true (by rfl)) | omega); (case x2 => first | assumption | ((repeat refine len_step (by assumption) ?_ (by rfl)); exact Nat.le_of_ble_eq_true (by rfl)) | omega); (case x3 => first | assumption | ((repeat refine len_step (by assumption) ?_ (by rfl)); exact Nat.le_of_ble_eq_true (by rfl)) | omega); (case x4 => first | assumption | ((repeat refine len_step (by assumption) ?_ (by rfl)); exact Nat.le_of_ble_eq_true (by rfl)) | omega); (case x5 => first | assumption | ((repeat refine len_step (by assumption) ?_ (by rfl)); exact Nat.le_of_ble_eq_true (by rfl)) | omega); k_whole); (try dsimp only); intro _ _ _ _ _ _ _ _; (try k_sweep))) | ((with_reducible show wpAny _ _ (call (Value.ref 447) _) _ _ _); (k_dflt (refine' c_top ?B ?F ?X ?T ?hA ?hf ?hke ?hH ?hd ?hu ?G ?N ?x0 ?_; (case N => tb_rel); (case B => k_asm); (case F => k_asm); (case X => k_asm); (case T => k_asm); (case hA => tb_start); (case hf => tb_start); (case hke => tb_start); (case hH => assumption); (case hd => ktr_room); (case hu => ktr_room); (case G => ktr_rel); (case x0 => first | assumption | ((repeat refine len_step (by assumption) ?_ (by rfl)); exact Nat.le_of_ble_eq_true (by rfl)) | omega); k_whole); (try dsimp only); intro _ _ _ _ _; (try k_sweep))) | ((with_reducible show wpAny _ _ (call (Value.ref 279) _) _ _ _); (k_dflt (refine' c_put ?B ?F ?X ?T ?hA ?hf ?hke ?hH ?hd ?hu ?G ?N ?x0 ?x1 ?x2 ?_; (case N => tb_rel); (case B => k_asm); (case F => k_asm); (case X => k_asm); (case T => k_asm); (case hA => tb_start); (case hf => tb_start); (case hke => tb_start); (case hH => assumption); (case hd => ktr_room); (case hu => ktr_room); (case G => ktr_rel); (case x0 => first | assumption | ((repeat refine len_step (by assumption) ?_ (by rfl)); exact Nat.le_of_ble_eq_true (by rfl)) | omega); (case x1 => first | assumption | ((repeat refine len_step (by assumption) ?_ (by rfl)); exact Nat.le_of_ble_eq_true (by rfl)) | omega); (case x2 => first | assumption | ((repeat refine len_step (by assumption) ?_ (by rfl)); exact Nat.le_of_ble_eq_true (by rfl)) | omega); k_whole); (try dsimp only); intro _ _ _ _ _ _ _ _ _ _; (try k_sweep))) | ((with_reducible show wpAny _ _ (call (Value.ref 552) _) _ _ _); (k_dflt (refine' c_choose ?B ?F ?X ?T ?hA ?hf ?hke ?hH ?hd ?hu ?N ?x0 ?x1 ?x2 ?x3 ?x4 ?_; (case N => first | assumption | exact News.sw (by assumption) | exact News.mv9 (by assumption) | exact News.mv9 (News.tail9' (by assumption))); (case B => k_asm); (case F => k_asm); (case X => k_asm); (case T => k_asm); (case hA => tb_start); (case hf => tb_start); (case hke => tb_start); (case hH => assumption); (case hd => ktr_room); (case hu => ktr_room); (case x0 => walk_at "my_off"); (case x1 => assumption); (case x2 => omega); (case x3 => omega); (case x4 => omega); k_whole); (try dsimp only); intro _ _ _ _ _ _ _ _ _ _ _ _ _; (try k_sweep)))) | ((with_reducible show wpAny _ _ (compareOp .NotEq (.ref _) (.ref _)) _ _ _); k_dflt (refine' my_ne_nil ?N ?a ?b ?u ?_ ?_; (case N => k_asm); (case a => walk_at "my_mem"); (case b => exact .head _); (case u => (show _ < _); k_units); k_whole) <;> intro _) | ((with_reducible show wpAny _ _ (binaryOp .Add (.ref _) (.ref _)) _ _ _); k_dflt (refine' my_cat1 ?F ?N ?a ?b ?z ?_; (case F => k_asm); (case N => k_asm); (case a => walk_at "my_mem"); (case b => walk_at "my_mem"); (case z => omega)); intro _ _ _ _ l1; (try k_lt l1); revert l1; intro _; (try k_sweep)) | ((with_reducible show wpAny _ _ (subscriptTail _ _ (Value.ref _) (Value.int _ _)) _ _ _); k_dflt (refine' my_sub ?k1 ?k2 ?k3 ?_ ?k4; (case k1 => k_asm); (case k2 => walk_at "my_mem"); (case k3 => first | assumption | exact At.cast (by assumption) (by omega) | exact At.last (by omega) (by omega)); (case k4 => with_unfolding_all rfl); k_whole)) | ((with_reducible show wpAny _ _ (call (Value.builtin "len") [Value.ref _]) _ _ _); k_dflt (refine' my_len ?k1 ?k2 ?k3 ?_; (case k1 => k_asm); (case k2 => walk_at "my_mem"); (case k3 => omega); k_whole); intro _) | walk1 | (dsimp only; walk1) | (leave1; walk_say "STEP leave1"; try dsimp only) | fail "no step")
    rename_i T1 hP l1c D1 hR l1d CL hS l1e hU F8 N8
    have z9 : (fvB.length : Int) = z := by omega
    have F9 : Fr h₀ L _ (LM sp rows mm CL pa mnB tmB _) := Fr.lm F8 rfl rfl rfl rfl rfl rfl
    have g2 : Geo rows md mm sd st hp sk tr xl ((CL, W.listOf (List.toArray (Value.ref T1 :: cvs)) 0) :: (D1, W.listOf (List.toArray [Value.ref T1]) 0) :: (T1, tupOf [Value.int v te1, Value.ref fl] 0) :: (fl, W.listOf (List.toArray fvB) kB) :: (rt, tupOf [Value.str "call" tc9, Value.int 0 t09, Value.int z tz] n9) :: tl) := by ktr_rel
    have g3 : Off [sp] ((CL, W.listOf (List.toArray (Value.ref T1 :: cvs)) 0) :: (D1, W.listOf (List.toArray [Value.ref T1]) 0) :: (T1, tupOf [Value.int v te1, Value.ref fl] 0) :: (fl, W.listOf (List.toArray fvB) kB) :: (rt, tupOf [Value.str "call" tc9, Value.int 0 t09, Value.int z tz] n9) :: tl) := by walk_at "my_off"
    have sub : ∀ p ∈ tl, p ∈ ((CL, W.listOf (List.toArray (Value.ref T1 :: cvs)) 0) :: (D1, W.listOf (List.toArray [Value.ref T1]) 0) :: (T1, tupOf [Value.int v te1, Value.ref fl] 0) :: (fl, W.listOf (List.toArray fvB) kB) :: (rt, tupOf [Value.str "call" tc9, Value.int 0 t09, Value.int z tz] n9) :: tl) := fun p hp => .tail _ (.tail _ (.tail _ (.tail _ (.tail _ hp))))
    refine h _ _ ⟨((rws ++ [Value.ref rt]).length : Int), v, b, hbv, bbv, mnB, tB, te1, tb, thb, tbb, tmB, nkB, nh, nx, nr + 1, kA, 0, kp, stkB, hpv, xs, rws ++ [Value.ref rt], vsA, Value.ref T1 :: cvs, pvs, _, CL, pa, (v, fvB) :: ch, pts, _⟩ F9 (News.b1 N8)
      ⟨by omega, ⟨nsA, hiA⟩, by dsimp only; omega, g2, hsp, g3, .head _, ?cv, ?hpa, ?pv, hnd, ?inv, ?l1, ?l2, ?l3, ?l4, ?l5, ?l6, ?l7, fun x hx => ⟨sub _ (hx9 x hx).1, (hx9 x hx).2⟩⟩
    all_goals dsimp only
    case cv => exact .cons (.tail _ (.tail _ (.head _))) (.tail _ (.tail _ (.tail _ (.head _)))) (hcv.mono sub)
    case hpa => exact sub _ hpa
    case pv => exact hpw.mono sub
    case inv =>
      have w0 : At stkB v (.int e te) := p1 _ _ (by omega) (hs1 ▸ At.putL_in v0 v1 (by omega) (by rw [Int.sub_self]; rfl) (Int.le_refl _) (by simp; omega))
      have w1 : At stkB (v + 1) (.int cp tcp) := p1 _ _ (by omega) (hs1 ▸ At.putL_in v0 v1 (by omega) (by rw [show (v + 1 - v).toNat = 1 by omega]; rfl) (by omega) (by simp; omega))
      exact inv.pushEnv v0 vc vp (fun k x hk hx => p1 k x (by omega) (hs1 ▸ At.putL_out v0 v1 hx hk)) (fun k x hx => hx.snoc) sub (Int.le_refl _) w0 w1 p2 (by omega)
        ⟨rt, tz, tc9, t09, n9, At.last (by simp) (by omega), z9 ▸ (.tail _ (.tail _ (.tail _ (.tail _ (.head _)))))⟩
    case l7 => exact fun p hp => Nat.le_succ_of_le (l7 p hp)
    all_goals (try simp only [List.length_append, List.length_cons, List.length_nil]); (first | exact Nat.le_succ_of_le (by assumption) | exact l1_succ (by assumption) | exact l6_succ (by assumption) | exact Nat.succ_le_succ (by assumption) | omega | (constructor <;> omega))
end
end
local macro_rules | `(tactic| walk_at "subscriptTail Name Slice ref ref") => `(tactic| ((with_reducible show wpAny _ _ (subscriptTail _ (PySem.Expr.Slice _ _ none _) (Value.ref _) (Value.ref _)) _ _ _); k_dflt (refine' kmk_slice_lit ?F ?N ?l ?p ?q ?e ?_ ?s ?t ?z; (case F => k_asm); (case N => k_asm); (case l => exact News.isList (by k_asm) (by walk_at "my_mem")); (case p => kmk_part); (case q => kmk_part); (case e => exact pick_drop (by first | omega | (simp only [List.length_cons]; omega)) (by first | omega | (simp only [List.length_cons]; omega))); (case s => with_unfolding_all rfl); (case t => kmk_pure); (case z => rw [List.size_toArray, sizeLine_eq]; first | omega | (simp only [List.length_cons]; omega))); intro D' h' F' N' l1; (try k_lt l1); (try k_sweep)))
-- F_b2
section
local macro_rules | `(tactic| walk_at "none such") => `(tactic| skip)
local macro_rules | `(tactic| walk_at "none such") => `(tactic| skip)
section
variable {prog : Program} {w : World} {A A₀ : Around} {base : Heap} {outer : List Env} {h₀ : Heap} {L fa : Addr} {cdv : Value} {mean : ExcName → Option Value} {mg mb : Str → Option Value} {loose : List Str} {s : Shared} {Q : Flow → Shared → Prop}
  {kt ks : Nat → Tok} {sp sy rows md mm sd st hp sk tr xl ro ba : Addr} {t1 t2 t3 tb0 tmd tms ts1 : Tok} {nt i : Nat} {q : LSt} {ext : List (Addr × Obj)}
  (B : Below A₀ base outer h₀) (F : Fr h₀ L s.heap (LM sp rows mm q.ca q.pa q.mn q.tmn q.rest)) (X : (kK w.params).In h₀) (T : Top kQ loose mean mg mb h₀) (hA : A.frames = some (lenv L fa cdv :: outer)) (hH : A.handled = none) (hd : A.depth ≤ 310) (hu : A.units ≤ 3100)
  (N : News h₀ L s.heap ((sp, W.listOf q.sv.toArray q.kS) :: ((mm, instObj 534 md) :: (md, dictOf (mD w kt sy rows st xl ro ba t1 t2 t3 tb0 tmd tms q.cp q.tcp q.e q.te q.b q.tb) 18) :: (st, instObj 374 sd) :: (sd, dictOf (sD w ks sy hp sk tr ts1 q.hbv q.thb q.bbv q.tbb) 7) :: (sk, W.listOf (List.toArray q.stk) q.nk) :: (hp, W.listOf (List.toArray q.hpv) q.nh) :: (tr, W.listOf #[] nt) :: (xl, W.listOf (List.toArray q.xs) q.nx) :: (rows, W.listOf (List.toArray q.rws) q.nr) :: q.tl))) (O : LOK prog w sp rows md mm sd st hp sk tr xl ext i q) (hi9 : i ≤ 23)
include B F X T hA hH hd hu N O hi9
theorem t_b2 (hne : 0 < q.cvs.length) (h : ∀ h' tk q', Fr h₀ L h' (LM sp rows mm q'.ca q'.pa q'.mn q'.tmn q'.rest) → News h₀ L h' ((sp, W.listOf q'.sv.toArray q'.kS) :: ((mm, instObj 534 md) :: (md, dictOf (mD w kt sy rows st xl ro ba t1 t2 t3 tb0 tmd tms q'.cp q'.tcp q'.e q'.te q'.b q'.tb) 18) :: (st, instObj 374 sd) :: (sd, dictOf (sD w ks sy hp sk tr ts1 q'.hbv q'.thb q'.bbv q'.tbb) 7) :: (sk, W.listOf (List.toArray q'.stk) q'.nk) :: (hp, W.listOf (List.toArray q'.hpv) q'.nh) :: (tr, W.listOf #[] nt) :: (xl, W.listOf (List.toArray q'.xs) q'.nx) :: (rows, W.listOf (List.toArray q'.rws) q'.nr) :: q'.tl)) → LOK prog w sp rows md mm sd st hp sk tr xl ext (i + 1) q' → Q .next { s with heap := h', toks := tk }) :
    wpAny (model prog w) A (execs br2 (lenv L fa cdv)) Q (fun _ _ => False) s := by
  obtain ⟨hi8, ⟨ns, hs⟩, hsz, geo, hsp, osp, hca, hcv, hpa, hpw, hnd, inv, l1, l2, l3, l4, l5, l6, l7, hx9⟩ := O
  obtain ⟨cp, e, b, hbv, bbv, mn, tcp, te, tb, thb, tbb, tmn, nk, nh, nx, nr, kS, kc, kp, stk, hpv, xs, rws, sv, cvs, pvs, tl, ca, pa, ch, pts, rest⟩ := q
  dsimp only at hs hsz geo osp hca hcv hpa hpw hnd inv l1 l2 l3 l4 l5 l6 l7 hx9 F N
  obtain ⟨o1, o2, o3, o4, o5, o6, o7, o8, hT⟩ := id geo
  obtain ⟨g2, g3, g4, g5, g6, g7, g8⟩ := geo.lts
  have s2 : @LT.lt Nat _ sp md := Nat.lt_trans hsp o1
  have s3 : @LT.lt Nat _ sp mm := Nat.lt_trans s2 o2
  have s4 : @LT.lt Nat _ sp sd := Nat.lt_trans s3 o3
  have s5 : @LT.lt Nat _ sp st := Nat.lt_trans s4 o4
  have s6 : @LT.lt Nat _ sp hp := Nat.lt_trans s5 o5
  have s7 : @LT.lt Nat _ sp sk := Nat.lt_trans s6 o6
  have s8 : @LT.lt Nat _ sp tr := Nat.lt_trans s7 o7
  have s9 : @LT.lt Nat _ sp xl := Nat.lt_trans s8 o8
  have cl1 := hcv.len
  have cl2 := hpw.len
  cases hcv with
  | nil => simp at hne
  | @cons tA fA sA ttA fvA nA kA vsA chA hta hfa hcv =>
  simp only [List.length_cons] at cl1 l3
  obtain ⟨hec, he0, e', te', cp', tcp', w0, w1, inv2⟩ := inv.popEnv
  show wpAny _ _ (execs _ (envOf _ _ _ _ _)) _ _ _
  delta br2 br2G lname lnameG lscope lscopeG
  repeat' (first | (k_unfold; (try dsimp only)) | ((with_reducible show wpAny _ _ (call (Value.ref _) _) _ _ _); first | ((with_reducible show wpAny _ _ (call (Value.ref 461) _) _ _ _); (k_dflt (refine' c_popenv ?B ?F ?X ?T ?hA ?hf ?hke ?hH ?hd ?hu ?G ?N ?x0 ?x1 ?_; (case N => tb_rel); (case B => k_asm); (case F => k_asm); (case X => k_asm); (case T => k_asm); (case hA => tb_start); (case hf => tb_start); (case hke => tb_start); (case hH => assumption); (case hd => ktr_room); (case hu => ktr_room); (case G => ktr_rel); (case x0 => first | assumption | ((repeat refine len_step (by assumption) ?_ (by rfl)); exact Nat.le_of_ble_eq_true (by rfl)) | omega); (case x1 => first | assumption | ((repeat refine len_step (by assumption) ?_ (by rfl)); exact Nat.le_of_ble_eq_true (by rfl)) | omega); k_whole); (try dsimp only); intro _ _ _ _; (try k_sweep))) | ((with_reducible show wpAny _ _ (call (Value.ref 552) _) _ _ _); (k_dflt (refine' c_choose ?B ?F ?X ?T ?hA ?hf ?hke ?hH ?hd ?hu ?N ?x0 ?x1 ?x2 ?x3 ?x4 ?_; (case N => first | assumption | exact News.sw (by assumption) | exact News.mv9 (by assumption) | exact News.mv9 (News.tail9' (by assumption))); (case B => k_asm); (case F => k_asm); (case X => k_asm); (case T => k_asm); (case hA => tb_start); (case hf => tb_start); (case hke => tb_start); (case hH => assumption); (case hd => ktr_room); (case hu => ktr_room); (case x0 => walk_at "my_off"); (case x1 => assumption); (case x2 => omega); (case x3 => omega); (case x4 => omega); k_whole); (try dsimp only); intro _ _ _ _ _ _ _ _ _ _ _ _ _; (try k_sweep)))) | ((with_reducible show wpAny _ _ (compareOp .NotEq (.ref _) (.ref _)) _ _ _); k_dflt (refine' my_ne_nil ?N ?a ?b ?u ?_ ?_; (case N => k_asm); (case a => walk_at "my_mem"); (case b => exact .head _); (case u => (show _ < _); k_units); k_whole) <;> intro _) | ((with_reducible show wpAny _ _ (binaryOp .Add (.ref _) (.ref _)) _ _ _); k_dflt (refine' my_cat1 ?F ?N ?a ?b ?z ?_; (case F => k_asm); (case N => k_asm); (case a => walk_at "my_mem"); (case b => walk_at "my_mem"); (case z => omega)); intro _ _ _ _ l1; (try k_lt l1); revert l1; intro _; (try k_sweep)) | ((with_reducible show wpAny _ _ (subscriptTail _ _ (Value.ref _) (Value.int _ _)) _ _ _); k_dflt (refine' my_sub ?k1 ?k2 ?k3 ?_ ?k4; (case k1 => k_asm); (case k2 => walk_at "my_mem"); (case k3 => first | assumption | exact At.cast (by assumption) (by omega) | exact At.last (by omega) (by omega)); (case k4 => with_unfolding_all rfl); k_whole)) | ((with_reducible show wpAny _ _ (call (Value.builtin "len") [Value.ref _]) _ _ _); k_dflt (refine' my_len ?k1 ?k2 ?k3 ?_; (case k1 => k_asm); (case k2 => walk_at "my_mem"); (case k3 => omega); k_whole); intro _) | walk1 | (dsimp only; walk1) | (leave1; walk_say "STEP leave1"; try dsimp only) | fail "no step")
  rename_i hP tkP D1 hR l1c hS F8 N8
  have F9 : Fr h₀ L _ (LM sp rows mm D1 pa mn tmn _) := Fr.lm F8 rfl rfl rfl rfl rfl rfl
  have g2 : Geo rows md mm sd st hp sk tr xl ((D1, W.listOf (List.toArray vsA) 0) :: tl) := by ktr_rel
  have g3 : Off [sp] ((D1, W.listOf (List.toArray vsA) 0) :: tl) := by walk_at "my_off"
  have sub : ∀ p ∈ tl, p ∈ ((D1, W.listOf (List.toArray vsA) 0) :: tl) := fun p hp => .tail _ hp
  refine h _ _ ⟨cp', e', b, hbv, bbv, mn, tcp', te', tb, thb, tbb, tmn, nk, nh, nx, nr, kS, 0, kp, stk, hpv, xs, rws, sv, vsA, pvs, (D1, W.listOf (List.toArray vsA) 0) :: tl, D1, pa, chA, pts, _⟩ F9 (News.p1 N8)
    ⟨by omega, ⟨ns, hs⟩, hsz, g2, hsp, g3, .head _, hcv.mono sub, sub _ hpa, hpw.mono sub, hnd, inv2.sub sub, ?l1, ?l2, ?l3, ?l4, ?l5, ?l6, ?l7, fun x hx => ⟨sub _ (hx9 x hx).1, (hx9 x hx).2⟩⟩
  all_goals dsimp only
  case l7 => exact fun p hp => Nat.le_succ_of_le (l7 p hp)
  all_goals (first | exact Nat.le_succ_of_le (by assumption) | exact l1_succ (by assumption) | exact l6_succ (by assumption) | exact Nat.succ_le_succ (by assumption) | omega | (constructor <;> omega))
end
end
-- F_b3
section
local macro_rules | `(tactic| walk_at "none such") => `(tactic| skip)
local macro_rules | `(tactic| walk_at "none such") => `(tactic| skip)
local macro_rules | `(tactic| walk_at "none such") => `(tactic| skip)
local macro_rules | `(tactic| walk_at "pyIter ref") => `(tactic| (refine Hold.out ?_))
section
variable {prog : Program} {w : World} {A A₀ : Around} {base : Heap} {outer : List Env} {h₀ : Heap} {L fa : Addr} {cdv : Value} {mean : ExcName → Option Value} {mg mb : Str → Option Value} {loose : List Str} {s : Shared} {Q : Flow → Shared → Prop}
  {kt ks : Nat → Tok} {sp sy rows md mm sd st hp sk tr xl ro ba : Addr} {t1 t2 t3 tb0 tmd tms ts1 : Tok} {nt i : Nat} {q : LSt} {ext : List (Addr × Obj)}
  (B : Below A₀ base outer h₀) (F : Fr h₀ L s.heap (LM sp rows mm q.ca q.pa q.mn q.tmn q.rest)) (X : (kK w.params).In h₀) (T : Top kQ loose mean mg mb h₀) (hA : A.frames = some (lenv L fa cdv :: outer)) (hH : A.handled = none) (hd : A.depth ≤ 310) (hu : A.units ≤ 3100)
  (N : News h₀ L s.heap ((sp, W.listOf q.sv.toArray q.kS) :: ((mm, instObj 534 md) :: (md, dictOf (mD w kt sy rows st xl ro ba t1 t2 t3 tb0 tmd tms q.cp q.tcp q.e q.te q.b q.tb) 18) :: (st, instObj 374 sd) :: (sd, dictOf (sD w ks sy hp sk tr ts1 q.hbv q.thb q.bbv q.tbb) 7) :: (sk, W.listOf (List.toArray q.stk) q.nk) :: (hp, W.listOf (List.toArray q.hpv) q.nh) :: (tr, W.listOf #[] nt) :: (xl, W.listOf (List.toArray q.xs) q.nx) :: (rows, W.listOf (List.toArray q.rws) q.nr) :: q.tl))) (O : LOK prog w sp rows md mm sd st hp sk tr xl ext i q) (hi9 : i ≤ 23)
include B F X T hA hH hd hu N O hi9
theorem t_b3 (h : ∀ h' tk q', Fr h₀ L h' (LM sp rows mm q'.ca q'.pa q'.mn q'.tmn q'.rest) → News h₀ L h' ((sp, W.listOf q'.sv.toArray q'.kS) :: ((mm, instObj 534 md) :: (md, dictOf (mD w kt sy rows st xl ro ba t1 t2 t3 tb0 tmd tms q'.cp q'.tcp q'.e q'.te q'.b q'.tb) 18) :: (st, instObj 374 sd) :: (sd, dictOf (sD w ks sy hp sk tr ts1 q'.hbv q'.thb q'.bbv q'.tbb) 7) :: (sk, W.listOf (List.toArray q'.stk) q'.nk) :: (hp, W.listOf (List.toArray q'.hpv) q'.nh) :: (tr, W.listOf #[] nt) :: (xl, W.listOf (List.toArray q'.xs) q'.nx) :: (rows, W.listOf (List.toArray q'.rws) q'.nr) :: q'.tl)) → LOK prog w sp rows md mm sd st hp sk tr xl ext (i + 1) q' → Q .next { s with heap := h', toks := tk }) :
    wpAny (model prog w) A (execs br3 (lenv L fa cdv)) Q (fun _ _ => False) s := by
  obtain ⟨hi8, ⟨ns, hs⟩, hsz, geo, hsp, osp, hca, hcv, hpa, hpw, hnd, inv, l1, l2, l3, l4, l5, l6, l7, hx9⟩ := O
  obtain ⟨cp, e, b, hbv, bbv, mn, tcp, te, tb, thb, tbb, tmn, nk, nh, nx, nr, kS, kc, kp, stk, hpv, xs, rws, sv, cvs, pvs, tl, ca, pa, ch, pts, rest⟩ := q
  dsimp only at hs hsz geo osp hca hcv hpa hpw hnd inv l1 l2 l3 l4 l5 l6 l7 hx9 F N
  obtain ⟨o1, o2, o3, o4, o5, o6, o7, o8, hT⟩ := id geo
  obtain ⟨g2, g3, g4, g5, g6, g7, g8⟩ := geo.lts
  have s2 : @LT.lt Nat _ sp md := Nat.lt_trans hsp o1
  have s3 : @LT.lt Nat _ sp mm := Nat.lt_trans s2 o2
  have s4 : @LT.lt Nat _ sp sd := Nat.lt_trans s3 o3
  have s5 : @LT.lt Nat _ sp st := Nat.lt_trans s4 o4
  have s6 : @LT.lt Nat _ sp hp := Nat.lt_trans s5 o5
  have s7 : @LT.lt Nat _ sp sk := Nat.lt_trans s6 o6
  have s8 : @LT.lt Nat _ sp tr := Nat.lt_trans s7 o7
  have s9 : @LT.lt Nat _ sp xl := Nat.lt_trans s8 o8
  have cl1 := hcv.len
  have cl2 := hpw.len
  obtain ⟨v, hv, v0, v1, vc, vp⟩ := top_ok inv.c inv.p inv.s
  show wpAny _ _ (execs _ (envOf _ _ _ _ _)) _ _ _
  delta br3 br3G lname lnameG lscope lscopeG
  repeat' (first | (k_unfold; (try dsimp only)) | ((with_reducible show wpAny _ _ (call (Value.ref _) _) _ _ _); first | ((with_reducible show wpAny _ _ (call (Value.ref 482) _) _ _ _); refine Hold.out ?_) | ((with_reducible show wpAny _ _ (call (Value.ref 482) _) _ _ _); (k_dflt (refine' c_pch ?B ?F ?X ?T ?hA ?hf ?hke ?hH ?hd ?hu ?G ?N ?x0 ?x1 ?x2 ?x3 ?x4 ?x5 ?x6 ?_; (case N => tb_rel); (case B => k_asm); (case F => k_asm); (case X => k_asm); (case T => k_asm); (case hA => tb_start); (case hf => tb_start); (case hke => tb_start); (case hH => assumption); (case hd => ktr_room); (case hu => ktr_room); (case G => ktr_rel); (case x0 => first | assumption | ((repeat refine len_step (by assumption) ?_ (by rfl)); exact Nat.le_of_ble_eq_true (by rfl)) | omega); (case x1 => first | assumption | ((repeat refine len_step (by assumption) ?_ (by rfl)); exact Nat.le_of_ble_eq_true (by rfl)) | omega); (case x2 => first | assumption | ((repeat refine len_step (by assumption) ?_ (by rfl)); exact Nat.le_of_ble_eq_true (by rfl)) | omega); (case x3 => first | assumption | ((repeat refine len_step (by assumption) ?_ (by rfl)); exact Nat.le_of_ble_eq_true (by rfl)) | omega); (case x4 => first | assumption | ((repeat refine len_step (by assumption) ?_ (by rfl)); exact Nat.le_of_ble_eq_true (by rfl)) | omega); (case x5 => first | assumption | ((repeat refine len_step (by assumption) ?_ (by rfl)); exact Nat.le_of_ble_eq_true (by rfl)) | omega); (case x6 => first | assumption | ((repeat refine len_step (by assumption) ?_ (by rfl)); exact Nat.le_of_ble_eq_true (by rfl)) | omega); k_whole); (try dsimp only); intro _ _ _ _ _ _ _ _ _ _ _ _ _ _ _; (try k_sweep))) | ((with_reducible show wpAny _ _ (call (Value.ref 475) _) _ _ _); (k_dflt (refine' c_setch ?B ?F ?X ?T ?hA ?hf ?hke ?hH ?hd ?hu ?G ?N ?x0 ?_; (case N => tb_rel); (case B => k_asm); (case F => k_asm); (case X => k_asm); (case T => k_asm); (case hA => tb_start); (case hf => tb_start); (case hke => tb_start); (case hH => assumption); (case hd => ktr_room); (case hu => ktr_room); (case G => ktr_rel); (case x0 => first | assumption | exact Or.inr ⟨_, _, _, _, by assumption, by assumption⟩); k_whole); (try dsimp only); intro _ _ _ _ _ _ _ _; (try k_sweep))) | ((with_reducible show wpAny _ _ (call (Value.ref 447) _) _ _ _); (k_dflt (refine' c_top ?B ?F ?X ?T ?hA ?hf ?hke ?hH ?hd ?hu ?G ?N ?x0 ?_; (case N => tb_rel); (case B => k_asm); (case F => k_asm); (case X => k_asm); (case T => k_asm); (case hA => tb_start); (case hf => tb_start); (case hke => tb_start); (case hH => assumption); (case hd => ktr_room); (case hu => ktr_room); (case G => ktr_rel); (case x0 => first | assumption | ((repeat refine len_step (by assumption) ?_ (by rfl)); exact Nat.le_of_ble_eq_true (by rfl)) | omega); k_whole); (try dsimp only); intro _ _ _ _ _; (try k_sweep))) | ((with_reducible show wpAny _ _ (call (Value.ref 279) _) _ _ _); (k_dflt (refine' c_put ?B ?F ?X ?T ?hA ?hf ?hke ?hH ?hd ?hu ?G ?N ?x0 ?x1 ?x2 ?_; (case N => tb_rel); (case B => k_asm); (case F => k_asm); (case X => k_asm); (case T => k_asm); (case hA => tb_start); (case hf => tb_start); (case hke => tb_start); (case hH => assumption); (case hd => ktr_room); (case hu => ktr_room); (case G => ktr_rel); (case x0 => first | assumption | ((repeat refine len_step (by assumption) ?_ (by rfl)); exact Nat.le_of_ble_eq_true (by rfl)) | omega); (case x1 => first | assumption | ((repeat refine len_step (by assumption) ?_ (by rfl)); exact Nat.le_of_ble_eq_true (by rfl)) | omega); (case x2 => first | assumption | ((repeat refine len_step (by assumption) ?_ (by rfl)); exact Nat.le_of_ble_eq_true (by rfl)) | omega); k_whole); (try dsimp only); intro _ _ _ _ _ _ _ _ _ _; (try k_sweep))) | ((with_reducible show wpAny _ _ (call (Value.ref 552) _) _ _ _); (k_dflt (refine' c_choose ?B ?F ?X ?T ?hA ?hf ?hke ?hH ?hd ?hu ?N ?x0 ?x1 ?x2 ?x3 ?x4 ?_; (case N => first | assumption | exact News.sw (by assumption) | exact News.mv9 (by assumption) | exact News.mv9 (News.tail9' (by assumption))); (case B => k_asm); (case F => k_asm); (case X => k_asm); (case T => k_asm); (case hA => tb_start); (case hf => tb_start); (case hke => tb_start); (case hH => assumption); (case hd => ktr_room); (case hu => ktr_room); (case x0 => walk_at "my_off"); (case x1 => assumption); (case x2 => omega); (case x3 => omega); (case x4 => omega); k_whole); (try dsimp only); intro _ _ _ _ _ _ _ _ _ _ _ _ _; (try k_sweep)))) | ((with_reducible show wpAny _ _ (compareOp .NotEq (.ref _) (.ref _)) _ _ _); k_dflt (refine' my_ne_nil ?N ?a ?b ?u ?_ ?_; (case N => k_asm); (case a => walk_at "my_mem"); (case b => exact .head _); (case u => (show _ < _); k_units); k_whole) <;> intro _) | ((with_reducible show wpAny _ _ (binaryOp .Add (.ref _) (.ref _)) _ _ _); k_dflt (refine' my_cat1 ?F ?N ?a ?b ?z ?_; (case F => k_asm); (case N => k_asm); (case a => walk_at "my_mem"); (case b => walk_at "my_mem"); (case z => omega)); intro _ _ _ _ l1; (try k_lt l1); revert l1; intro _; (try k_sweep)) | ((with_reducible show wpAny _ _ (subscriptTail _ _ (Value.ref _) (Value.int _ _)) _ _ _); k_dflt (refine' my_sub ?k1 ?k2 ?k3 ?_ ?k4; (case k1 => k_asm); (case k2 => walk_at "my_mem"); (case k3 => first | assumption | exact At.cast (by assumption) (by omega) | exact At.last (by omega) (by omega)); (case k4 => with_unfolding_all rfl); k_whole)) | ((with_reducible show wpAny _ _ (call (Value.builtin "len") [Value.ref _]) _ _ _); k_dflt (refine' my_len ?k1 ?k2 ?k3 ?_; (case k1 => k_asm); (case k2 => walk_at "my_mem"); (case k3 => omega); k_whole); intro _) | walk1 | (dsimp only; walk1) | (leave1; walk_say "STEP leave1"; try dsimp only) | fail "no step")
  refine Hold.mk ?_
  rename_i gl hP l1a hR hR2 tkA vsA nsA kA z tz hiA hzA hz0 hz1 gH tkC tR uR vR R9 F9 N9 a9
  refine' rangeS (n := z.toNat) (M1 (Str.ofString "mark_no") (fun (q : Int × Tok × List Value × Nat) => Value.int q.1 q.2.1) _) (fun q : Int × Tok × List Value × Nat => (sp, W.listOf vsA.toArray kA) :: (gl, W.listOf (List.toArray q.2.2.1) q.2.2.2) :: ((mm, instObj 534 md) :: (md, dictOf (mD w kt sy rows st xl ro ba t1 t2 t3 tb0 tmd tms cp tcp e te b tb) 18) :: (st, instObj 374 sd) :: (sd, dictOf (sD w ks sy hp sk tr ts1 hbv thb bbv tbb) 7) :: (sk, W.listOf (List.toArray stk) nk) :: (hp, W.listOf (List.toArray hpv) nh) :: (tr, W.listOf #[] nt) :: (xl, W.listOf (List.toArray xs) nx) :: (rows, W.listOf (List.toArray rws) nr) :: tl))
    (fun i q => q.2.2.1.length = i) (mn, tmn, [], 0) hH R9 (small1 hz0 (by omega)) (size1 hz0) F9 N9 (M1_start rfl) rfl rfl ?turn ?done
  case turn =>
    rintro i2 ⟨mnB, tmB, gv, kB⟩ t h' tk' I it hi' p3 ho hI F' N'
    k_lt hI
    dsimp only [envOf, M1] at p3 ho F' N'
    clear N9 F9
    repeat' (first | (k_unfold; (try dsimp only)) | ((with_reducible show wpAny _ _ (call (Value.ref _) _) _ _ _); first | ((with_reducible show wpAny _ _ (call (Value.ref 482) _) _ _ _); refine Hold.out ?_) | ((with_reducible show wpAny _ _ (call (Value.ref 482) _) _ _ _); (k_dflt (refine' c_pch ?B ?F ?X ?T ?hA ?hf ?hke ?hH ?hd ?hu ?G ?N ?x0 ?x1 ?x2 ?x3 ?x4 ?x5 ?x6 ?_; (case N => tb_rel); (case B => k_asm); (case F => k_asm); (case X => k_asm); (case T => k_asm); (case hA => tb_start); (case hf => tb_start); (case hke => tb_start); (case hH => assumption); (case hd => ktr_room); (case hu => ktr_room); (case G => ktr_rel); (case x0 => first | assumption | ((repeat refine len_step (by assumption) ?_ (by rfl)); exact Nat.le_of_ble_eq_true (by rfl)) | omega); (case x1 => first | assumption | ((repeat refine len_step (by assumption) ?_ (by rfl)); exact Nat.le_of_ble_eq_true (by rfl)) | omega); (case x2 => first | assumption | ((repeat refine len_step (by assumption) ?_ (by rfl)); exact Nat.le_of_ble_eq_true (by rfl)) | omega); (case x3 => first | assumption | ((repeat refine len_step (by assumption) ?_ (by rfl)); exact Nat.le_of_ble_eq_true (by rfl)) | omega); (case x4 => first | assumption | ((repeat refine len_step (by assumption) ?_ (by rfl)); exact Nat.le_of_ble_eq_true (by rfl)) | omega); (case x5 => first | assumption | ((repeat refine len_step (by assumption) ?_ (by rfl)); exact Nat.le_of_ble_eq_true (by rfl)) | omega); (case x6 => first | assumption | ((repeat refine len_step (by assumption) ?_ (by rfl)); exact Nat.le_of_ble_eq_true (by rfl)) | omega); k_whole); (try dsimp only); intro _ _ _ _ _ _ _ _ _ _ _ _ _ _ _; (try k_sweep))) | ((with_reducible show wpAny _ _ (call (Value.ref 475) _) _ _ _); (k_dflt (refine' c_setch ?B ?F ?X ?T ?hA ?hf ?hke ?hH ?hd ?hu ?G ?N ?x0 ?_; (case N => tb_rel); (case B => k_asm); (case F => k_asm); (case X => k_asm); (case T => k_asm); (case hA => tb_start); (case hf => tb_start); (case hke => tb_start); (case hH => assumption); (case hd => ktr_room); (case hu => ktr_room); (case G => ktr_rel); (case x0 => first | assumption | exact Or.inr ⟨_, _, _, _, by assumption, by assumption⟩); k_whole); (try dsimp only); intro _ _ _ _ _ _ _ _; (try k_sweep))) | ((with_reducible show wpAny _ _ (call (Value.ref 447) _) _ _ _); (k_dflt (refine' c_top ?B ?F ?X ?T ?hA ?hf ?hke ?hH ?hd ?hu ?G ?N ?x0 ?_; (case N => tb_rel); (case B => k_asm); (case F => k_asm); (case X => k_asm); (case T => k_asm); (case hA => tb_start); (case hf => tb_start); (case hke => tb_start); (case hH => assumption); (case hd => ktr_room); (case hu => ktr_room); (case G => ktr_rel); (case x0 => first | assumption | ((repeat refine len_step (by assumption) ?_ (by rfl)); exact Nat.le_of_ble_eq_true (by rfl)) | omega); k_whole); (try dsimp only); intro _ _ _ _ _; (try k_sweep))) | ((with_reducible show wpAny _ _ (call (Value.ref 279) _) _ _ _); (k_dflt (refine' c_put ?B ?F ?X ?T ?hA ?hf ?hke ?hH ?hd ?hu ?G ?N ?x0 ?x1 ?x2 ?_; (case N => tb_rel); (case B => k_asm); (case F => k_asm); (case X => k_asm); (case T => k_asm); (case hA => tb_start); (case hf => tb_start); (case hke => tb_start); (case hH => assumption); (case hd => ktr_room); (case hu => ktr_room); (case G => ktr_rel); (case x0 => first | assumption | ((repeat refine len_step (by assumption) ?_ (by rfl)); exact Nat.le_of_ble_eq_true (by rfl)) | omega); (case x1 => first | assumption | ((repeat refine len_step (by assumption) ?_ (by rfl)); exact Nat.le_of_ble_eq_true (by rfl)) | omega); (case x2 => first | assumption | ((repeat refine len_step (by assumption) ?_ (by rfl)); exact Nat.le_of_ble_eq_true (by rfl)) | omega); k_whole); (try dsimp only); intro _ _ _ _ _ _ _ _ _ _; (try k_sweep))) | ((with_reducible show wpAny _ _ (call (Value.ref 552) _) _ _ _); (k_dflt (refine' c_choose ?B ?F ?X ?T ?hA ?hf ?hke ?hH ?hd ?hu ?N ?x0 ?x1 ?x2 ?x3 ?x4 ?_; (case N => first | assumption | exact News.sw (by assumption) | exact News.mv9 (by assumption) | exact News.mv9 (News.tail9' (by assumption))); (case B => k_asm); (case F => k_asm); (case X => k_asm); (case T => k_asm); (case hA => tb_start); (case hf => tb_start); (case hke => tb_start); (case hH => assumption); (case hd => ktr_room); (case hu => ktr_room); (case x0 => walk_at "my_off"); (case x1 => assumption); (case x2 => omega); (case x3 => omega); (case x4 => omega); k_whole); (try dsimp only); intro _ _ _ _ _ _ _ _ _ _ _ _ _; (try k_sweep)))) | ((with_reducible show wpAny _ _ (compareOp .NotEq (.ref _) (.ref _)) _ _ _); k_dflt (refine' my_ne_nil ?N ?a ?b ?u ?_ ?_; (case N => k_asm); (case a => walk_at "my_mem"); (case b => exact .head _); (case u => (show _ < _); k_units); k_whole) <;> intro _) | ((with_reducible show wpAny _ _ (binaryOp .Add (.ref _) (.ref _)) _ _ _); k_dflt (refine' my_cat1 ?F ?N ?a ?b ?z ?_; (case F => k_asm); (case N => k_asm); (case a => walk_at "my_mem"); (case b => walk_at "my_mem"); (case z => omega)); intro _ _ _ _ l1; (try k_lt l1); revert l1; intro _; (try k_sweep)) | ((with_reducible show wpAny _ _ (subscriptTail _ _ (Value.ref _) (Value.int _ _)) _ _ _); k_dflt (refine' my_sub ?k1 ?k2 ?k3 ?_ ?k4; (case k1 => k_asm); (case k2 => walk_at "my_mem"); (case k3 => first | assumption | exact At.cast (by assumption) (by omega) | exact At.last (by omega) (by omega)); (case k4 => with_unfolding_all rfl); k_whole)) | ((with_reducible show wpAny _ _ (call (Value.builtin "len") [Value.ref _]) _ _ _); k_dflt (refine' my_len ?k1 ?k2 ?k3 ?_; (case k1 => k_asm); (case k2 => walk_at "my_mem"); (case k3 => omega); k_whole); intro _) | walk1 | (dsimp only; walk1) | (leave1; walk_say "STEP leave1"; try dsimp only) | fail "no step")
    rename_i T hP2 l1c D1 F8 N8
    try dsimp only [LpPost]
    refine LpEnd.intro (mnB + 1, _, gv ++ [Value.ref T], kB + 1) F8 nm1 (News.tail9' N8) (off_same ho) (by dsimp only; simp [p3])
  case done =>
    rintro ⟨mnB, tmB, gv, kB⟩ u h' tk' p3 F' N'
    dsimp only [envOf, M1] at p3 F' N'
    clear N9 F9
    repeat' (first | (k_unfold; (try dsimp only)) | ((with_reducible show wpAny _ _ (call (Value.ref _) _) _ _ _); first | ((with_reducible show wpAny _ _ (call (Value.ref 482) _) _ _ _); refine Hold.out ?_) | ((with_reducible show wpAny _ _ (call (Value.ref 482) _) _ _ _); (k_dflt (refine' c_pch ?B ?F ?X ?T ?hA ?hf ?hke ?hH ?hd ?hu ?G ?N ?x0 ?x1 ?x2 ?x3 ?x4 ?x5 ?x6 ?_; (case N => tb_rel); (case B => k_asm); (case F => k_asm); (case X => k_asm); (case T => k_asm); (case hA => tb_start); (case hf => tb_start); (case hke => tb_start); (case hH => assumption); (case hd => ktr_room); (case hu => ktr_room); (case G => ktr_rel); (case x0 => first | assumption | ((repeat refine len_step (by assumption) ?_ (by rfl)); exact Nat.le_of_ble_eq_true (by rfl)) | omega); (case x1 => first | assumption | ((repeat refine len_step (by assumption) ?_ (by rfl)); exact Nat.le_of_ble_eq_true (by rfl)) | omega); (case x2 => first | assumption | ((repeat refine len_step (by assumption) ?_ (by rfl)); exact Nat.le_of_ble_eq_true (by rfl)) | omega); (case x3 => first | assumption | ((repeat refine len_step (by assumption) ?_ (by rfl)); exact Nat.le_of_ble_eq_true (by rfl)) | omega); (case x4 => first | assumption | ((repeat refine len_step (by assumption) ?_ (by rfl)); exact Nat.le_of_ble_eq_true (by rfl)) | omega); (case x5 => first | assumption | ((repeat refine len_step (by assumption) ?_ (by rfl)); exact Nat.le_of_ble_eq_true (by rfl)) | omega); (case x6 => first | assumption | ((repeat refine len_step (by assumption) ?_ (by rfl)); exact Nat.le_of_ble_eq_true (by rfl)) | omega); k_whole); (try dsimp only); intro _ _ _ _ _ _ _ _ _ _ _ _ _ _ _; (try k_sweep))) | ((with_reducible show wpAny _ _ (call (Value.ref 475) _) _ _ _); (k_dflt (refine' c_setch ?B ?F ?X ?T ?hA ?hf ?hke ?hH ?hd ?hu ?G ?N ?x0 ?_; (case N => tb_rel); (case B => k_asm); (case F => k_asm); (case X => k_asm); (case T => k_asm); (case hA => tb_start); (case hf => tb_start); (case hke => tb_start); (case hH => assumption); (case hd => ktr_room); (case hu => ktr_room); (case G => ktr_rel); (case x0 => first | assumption | exact Or.inr ⟨_, _, _, _, by assumption, by assumption⟩); k_whole); (try dsimp only); intro _ _ _ _ _ _ _ _; (try k_sweep))) | ((with_reducible show wpAny _ _ (call (Value.ref 447) _) _ _ _); (k_dflt (refine' c_top ?B ?F ?X ?T ?hA ?hf ?hke ?hH ?hd ?hu ?G ?N ?x0 ?_; (case N => tb_rel); (case B => k_asm); (case F => k_asm); (case X => k_asm); (case T => k_asm); (case hA => tb_start); (case hf => tb_start); (case hke => tb_start); (case hH => assumption); (case hd => ktr_room); (case hu => ktr_room); (case G => ktr_rel); (case x0 => first | assumption | ((repeat refine len_step (by assumption) ?_ (by rfl)); exact Nat.le_of_ble_eq_true (by rfl)) | omega); k_whole); (try dsimp only); intro _ _ _ _ _; (try k_sweep))) | ((with_reducible show wpAny _ _ (call (Value.ref 279) _) _ _ _); (k_dflt (refine' c_put ?B ?F ?X ?T ?hA ?hf ?hke ?hH ?hd ?hu ?G ?N ?x0 ?x1 ?x2 ?_; (case N => tb_rel); (case B => k_asm); (case F => k_asm); (case X => k_asm); (case T => k_asm); (case hA => tb_start); (case hf => tb_start); (case hke => tb_start); (case hH => assumption); (case hd => ktr_room); (case hu => ktr_room); (case G => ktr_rel); (case x0 => first | assumption | ((repeat refine len_step (by assumption) ?_ (by rfl)); exact Nat.le_of_ble_eq_true (by rfl)) | omega); (case x1 => first | assumption | ((repeat refine len_step (by assumption) ?_ (by rfl)); exact Nat.le_of_ble_eq_true (by rfl)) | omega); (case x2 => first | assumption | ((repeat refine len_step (by assumption) ?_ (by rfl)); exact Nat.le_of_ble_eq_true (by rfl)) | omega); k_whole); (try dsimp only); intro _ _ _ _ _ _ _ _ _ _; (try k_sweep))) | ((with_reducible show wpAny _ _ (call (Value.ref 552) _) _ _ _); (k_dflt (refine' c_choose ?B ?F ?X ?T ?hA ?hf ?hke ?hH ?hd ?hu ?N ?x0 ?x1 ?x2 ?x3 ?x4 ?_; (case N => first | assumption | exact News.sw (by assumption) | exact News.mv9 (by assumption) | exact News.mv9 (News.tail9' (by assumption))); (case B => k_asm); (case F => k_asm); (case X => k_asm); (case T => k_asm); (case hA => tb_start); (case hf => tb_start); (case hke => tb_start); (case hH => assumption); (case hd => ktr_room); (case hu => ktr_room); (case x0 => walk_at "my_off"); (case x1 => assumption); (case x2 => omega); (case x3 => omega); (case x4 => omega); k_whole); (try dsimp only); intro _ _ _ _ _ _ _ _ _ _ _ _ _; (try k_sweep)))) | ((with_reducible show wpAny _ _ (compareOp .NotEq (.ref _) (.ref _)) _ _ _); k_dflt (refine' my_ne_nil ?N ?a ?b ?u ?_ ?_; (case N => k_asm); (case a => walk_at "my_mem"); (case b => exact .head _); (case u => (show _ < _); k_units); k_whole) <;> intro _) | ((with_reducible show wpAny _ _ (binaryOp .Add (.ref _) (.ref _)) _ _ _); k_dflt (refine' my_cat1 ?F ?N ?a ?b ?z ?_; (case F => k_asm); (case N => k_asm); (case a => walk_at "my_mem"); (case b => walk_at "my_mem"); (case z => omega)); intro _ _ _ _ l1; (try k_lt l1); revert l1; intro _; (try k_sweep)) | ((with_reducible show wpAny _ _ (subscriptTail _ _ (Value.ref _) (Value.int _ _)) _ _ _); k_dflt (refine' my_sub ?k1 ?k2 ?k3 ?_ ?k4; (case k1 => k_asm); (case k2 => walk_at "my_mem"); (case k3 => first | assumption | exact At.cast (by assumption) (by omega) | exact At.last (by omega) (by omega)); (case k4 => with_unfolding_all rfl); k_whole)) | ((with_reducible show wpAny _ _ (call (Value.builtin "len") [Value.ref _]) _ _ _); k_dflt (refine' my_len ?k1 ?k2 ?k3 ?_; (case k1 => k_asm); (case k2 => walk_at "my_mem"); (case k3 => omega); k_whole); intro _) | walk1 | (dsimp only; walk1) | (leave1; walk_say "STEP leave1"; try dsimp only) | fail "no step")
    refine Hold.mk ?_
    rename Fr _ _ _ _ => F9
    rename News _ _ _ _ => N9
    have hv' : TopIs e b cp stk rws ((sp, W.listOf vsA.toArray kA) :: (gl, W.listOf (List.toArray gv) kB) :: tl) v := hv.mono (fun _ hp => .tail _ (.tail _ hp))
    (k_dflt (refine' c_pch ?B ?F ?X ?T ?hA ?hf ?hke ?hH ?hd ?hu ?G ?N ?x0 ?x1 ?x2 ?x3 ?x4 ?x5 ?x6 ?_; (case N => tb_rel); (case B => k_asm); (case F => k_asm); (case X => k_asm); (case T => k_asm); (case hA => tb_start); (case hf => tb_start); (case hke => tb_start); (case hH => assumption); (case hd => ktr_room); (case hu => ktr_room); (case G => ktr_rel); (case x0 => exact hv'); (case x1 => assumption); (case x2 => assumption); (case x3 => omega); (case x4 => exact .tail _ (.head _)); (case x5 => omega); (case x6 => omega); k_whole); (try dsimp only); intro h1 tk1 tb1 hb1 thb1 bb1 tbb1 nk1 stk1 ta1 tc1 th1 hs1 F1 N1; (try k_sweep))
    repeat' (first | (k_unfold; (try dsimp only)) | ((with_reducible show wpAny _ _ (call (Value.ref _) _) _ _ _); first | ((with_reducible show wpAny _ _ (call (Value.ref 482) _) _ _ _); refine Hold.out ?_) | ((with_reducible show wpAny _ _ (call (Value.ref 482) _) _ _ _); (k_dflt (refine' c_pch ?B ?F ?X ?T ?hA ?hf ?hke ?hH ?hd ?hu ?G ?N ?x0 ?x1 ?x2 ?x3 ?x4 ?x5 ?x6 ?_; (case N => tb_rel); (case B => k_asm); (case F => k_asm); (case X => k_asm); (case T => k_asm); (case hA => tb_start); (case hf => tb_start); (case hke => tb_start); (case hH => assumption); (case hd => ktr_room); (case hu => ktr_room); (case G => ktr_rel); (case x0 => first | assumption | ((repeat refine len_step (by assumption) ?_ (by rfl)); exact Nat.le_of_ble_eq_true (by rfl)) | omega); (case x1 => first | assumption | ((repeat refine len_step (by assumption) ?_ (by rfl)); exact Nat.le_of_ble_eq_true (by rfl)) | omega); (case x2 => first | assumption | ((repeat refine len_step (by assumption) ?_ (by rfl)); exact Nat.le_of_ble_eq_true (by rfl)) | omega); (case x3 => first | assumption | ((repeat refine len_step (by assumption) ?_ (by rfl)); exact Nat.le_of_ble_eq_true (by rfl)) | omega); (case x4 => first | assumption | ((repeat refine len_step (by assumption) ?_ (by rfl)); exact Nat.le_of_ble_eq_true (by rfl)) | omega); (case x5 => first | assumption | ((repeat refine len_step (by assumption) ?_ (by rfl)); exact Nat.le_of_ble_eq_true (by rfl)) | omega); (case x6 => first | assumption | ((repeat refine len_step (by assumption) ?_ (by rfl)); exact Nat.le_of_ble_eq_true (by rfl)) | omega); k_whole); (try dsimp only); intro _ _ _ _ _ _ _ _ _ _ _ _ _ _ _; (try k_sweep))) | ((with_reducible show wpAny _ _ (call (Value.ref 475) _) _ _ _); (k_dflt (refine' c_setch ?B ?F ?X ?T ?hA ?hf ?hke ?hH ?hd ?hu ?G ?N ?x0 ?_; (case N => tb_rel); (case B => k_asm); (case F => k_asm); (case X => k_asm); (case T => k_asm); (case hA => tb_start); (case hf => tb_start); (case hke => tb_start); (case hH => assumption); (case hd => ktr_room); (case hu => ktr_room); (case G => ktr_rel); (case x0 => first | assumption | exact Or.inr ⟨_, _, _, _, by assumption, by assumption⟩); k_whole); (try dsimp only); intro _ _ _ _ _ _ _ _; (try k_sweep))) | ((with_reducible show wpAny _ _ (call (Value.ref 447) _) _ _ _); (k_dflt (refine' c_top ?B ?F ?X ?T ?hA ?hf ?hke ?hH ?hd ?hu ?G ?N ?x0 ?_; (case N => tb_rel); (case B => k_asm); (case F => k_asm); (case X => k_asm); (case T => k_asm); (case hA => tb_start); (case hf => tb_start); (case hke => tb_start); (case hH => assumption); (case hd => ktr_room); (case hu => ktr_room); (case G => ktr_rel); (case x0 => first | assumption | ((repeat refine len_step (by assumption) ?_ (by rfl)); exact Nat.le_of_ble_eq_true (by rfl)) | omega); k_whole); (try dsimp only); intro _ _ _ _ _; (try k_sweep))) | ((with_reducible show wpAny _ _ (call (Value.ref 279) _) _ _ _); (k_dflt (refine' c_put ?B ?F ?X ?T ?hA ?hf ?hke ?hH ?hd ?hu ?G ?N ?x0 ?x1 ?x2 ?_; (case N => tb_rel); (case B => k_asm); (case F => k_asm); (case X => k_asm); (case T => k_asm); (case hA => tb_start); (case hf => tb_start); (case hke => tb_start); (case hH => assumption); (case hd => ktr_room); (case hu => ktr_room); (case G => ktr_rel); (case x0 => first | assumption | ((repeat refine len_step (by assumption) ?_ (by rfl)); exact Nat.le_of_ble_eq_true (by rfl)) | omega); (case x1 => first | assumption | ((repeat refine len_step (by assumption) ?_ (by rfl)); exact Nat.le_of_ble_eq_true (by rfl)) | omega); (case x2 => first | assumption | ((repeat refine len_step (by assumption) ?_ (by rfl)); exact Nat.le_of_ble_eq_true (by rfl)) | omega); k_whole); (try dsimp only); intro _ _ _ _ _ _ _ _ _ _; (try k_sweep))) | ((with_reducible show wpAny _ _ (call (Value.ref 552) _) _ _ _); (k_dflt (refine' c_choose ?B ?F ?X ?T ?hA ?hf ?hke ?hH ?hd ?hu ?N ?x0 ?x1 ?x2 ?x3 ?x4 ?_; (case N => first | assumption | exact News.sw (by assumption) | exact News.mv9 (by assumption) | exact News.mv9 (News.tail9' (by assumption))); (case B => k_asm); (case F => k_asm); (case X => k_asm); (case T => k_asm); (case hA => tb_start); (case hf => tb_start); (case hke => tb_start); (case hH => assumption); (case hd => ktr_room); (case hu => ktr_room); (case x0 => walk_at "my_off"); (case x1 => assumption); (case x2 => omega); (case x3 => omega); (case x4 => omega); k_whole); (try dsimp only); intro _ _ _ _ _ _ _ _ _ _ _ _ _; (try k_sweep)))) | ((with_reducible show wpAny _ _ (compareOp .NotEq (.ref _) (.ref _)) _ _ _); k_dflt (refine' my_ne_nil ?N ?a ?b ?u ?_ ?_; (case N => k_asm); (case a => walk_at "my_mem"); (case b => exact .head _); (case u => (show _ < _); k_units); k_whole) <;> intro _) | ((with_reducible show wpAny _ _ (binaryOp .Add (.ref _) (.ref _)) _ _ _); k_dflt (refine' my_cat1 ?F ?N ?a ?b ?z ?_; (case F => k_asm); (case N => k_asm); (case a => walk_at "my_mem"); (case b => walk_at "my_mem"); (case z => omega)); intro _ _ _ _ l1; (try k_lt l1); revert l1; intro _; (try k_sweep)) | ((with_reducible show wpAny _ _ (subscriptTail _ _ (Value.ref _) (Value.int _ _)) _ _ _); k_dflt (refine' my_sub ?k1 ?k2 ?k3 ?_ ?k4; (case k1 => k_asm); (case k2 => walk_at "my_mem"); (case k3 => first | assumption | exact At.cast (by assumption) (by omega) | exact At.last (by omega) (by omega)); (case k4 => with_unfolding_all rfl); k_whole)) | ((with_reducible show wpAny _ _ (call (Value.builtin "len") [Value.ref _]) _ _ _); k_dflt (refine' my_len ?k1 ?k2 ?k3 ?_; (case k1 => k_asm); (case k2 => walk_at "my_mem"); (case k3 => omega); k_whole); intro _) | walk1 | (dsimp only; walk1) | (leave1; walk_say "STEP leave1"; try dsimp only) | fail "no step")
    rename_i d1 hP5 o1x lo1 hdx l1d tX hP4 o1' hd1 hP3 tkY D2 hP2 l1e D1 hP1 l1f hP0 F8 N8
    have z9 : (gv.length : Int) = z := by omega
    have F9 : Fr h₀ L _ (LM sp rows mm ca D1 (mnB + 1) _ _) := Fr.lm F8 rfl rfl rfl rfl rfl rfl
    have zl := putL_len (Value.int (gv.length : Int) ta1 :: (gv ++ [Value.int e te, Value.int cp tcp, Value.int b tb, Value.int (mnB + 1) (tk' + 1), Value.int 0 tc1, Value.int (hpv.length : Int) th1, Value.int (-1) tb0])) stk v v0 v1
    rw [← hs1] at zl
    simp only [List.length_cons, List.length_append, List.length_nil] at zl
    have gt : ∀ (j : Nat) (x : Value), [Value.int e te, Value.int cp tcp, Value.int b tb, Value.int (mnB + 1) (tk' + 1), Value.int 0 tc1, Value.int (hpv.length : Int) th1, Value.int (-1) tb0][j]? = some x → At stk1 (v + gv.length + 1 + (j : Int)) x := fun j x hj => hs1 ▸ At.putL_in v0 v1 (by omega) (pch_get (j := j) (by omega) hj) (by omega) (by simp; omega)
    have gn : At stk1 v (.int (gv.length : Int) ta1) := hs1 ▸ At.putL_in v0 v1 (by omega) (by rw [Int.sub_self]; rfl) (Int.le_refl _) (by simp; omega)
    have gg : ∀ (j : Nat) (x : Value), gv[j]? = some x → At stk1 (v + 1 + (j : Int)) x := fun j x hj => hs1 ▸ At.putL_in v0 v1 (by omega) (pch_gv (j := j) (by omega) hj) (by omega) (by simp; omega)
    have row : PtRow stk1 ⟨v, gv, mnB + 1, ch, cp, (hpv.length : Int)⟩ e b := ⟨v0, ⟨_, gn⟩, gg, by dsimp only; omega, ⟨_, (gt 0 _ rfl).cast (by dsimp only; omega)⟩, ⟨_, (gt 1 _ rfl).cast (by dsimp only; omega)⟩, ⟨_, (gt 2 _ rfl).cast (by dsimp only; omega)⟩, ⟨_, (gt 3 _ rfl).cast (by dsimp only; omega)⟩, ⟨_, (gt 4 _ rfl).cast (by dsimp only; omega)⟩, ⟨_, (gt 5 _ rfl).cast (by dsimp only; omega)⟩, ⟨_, (gt 6 _ rfl).cast (by dsimp only; omega)⟩⟩
    have g2 : Geo rows md mm sd st hp sk tr xl ((D1, W.listOf (List.toArray (Value.ref d1 :: pvs)) 0) :: (D2, W.listOf (List.toArray [Value.ref d1]) 0) :: (d1, o1') :: (gl, W.listOf (List.toArray gv) kB) :: tl) := by ktr_rel
    have g3 : Off [sp] ((D1, W.listOf (List.toArray (Value.ref d1 :: pvs)) 0) :: (D2, W.listOf (List.toArray [Value.ref d1]) 0) :: (d1, o1') :: (gl, W.listOf (List.toArray gv) kB) :: tl) := by walk_at "my_off"
    have sub : ∀ p ∈ tl, p ∈ ((D1, W.listOf (List.toArray (Value.ref d1 :: pvs)) 0) :: (D2, W.listOf (List.toArray [Value.ref d1]) 0) :: (d1, o1') :: (gl, W.listOf (List.toArray gv) kB) :: tl) := fun p hp => .tail _ (.tail _ (.tail _ (.tail _ hp)))
    have fresh : Value.ref d1 ∉ pvs := hpw.fresh (by
      obtain ⟨_, _, _, _, _, _, _, _, _, _, _, bA⟩ := l1d
      exact fun p hp => tb_ltOf bA p hp)
    refine h _ _ ⟨cp, e, v, hb1, bb1, mnB + 1, tcp, te, tb1, thb1, tbb1, _, nk1, nh, nx, nr, kA, kc, 0, stk1, hpv, xs, rws, vsA, cvs, Value.ref d1 :: pvs, _, ca, D1, ch, ⟨v, gv, mnB + 1, ch, cp, (hpv.length : Int)⟩ :: pts, _⟩ F9 (News.b3 N8)
      ⟨by omega, ⟨nsA, hiA⟩, by dsimp only; omega, g2, hsp, g3, sub _ hca, hcv.mono sub, .head _, ?pv, List.nodup_cons.mpr ⟨fresh, hnd⟩, ?inv, ?l1, ?l2, ?l3, ?l4, ?l5, ?l6, ?l7, fun x hx => ⟨sub _ (hx9 x hx).1, (hx9 x hx).2⟩⟩
    all_goals dsimp only
    case pv => exact .cons (.mk (.tail _ (.tail _ (.head _))) hd1 (.tail _ (.tail _ (.tail _ (.head _)))) (sub _ hca) (hcv.mono sub)) (hpw.mono sub)
    case inv => exact inv.pushPt vc vp (fun k x hk hx => hs1 ▸ At.putL_out v0 v1 hx hk) sub (by omega) rfl rfl rfl row
    case l7 =>
      intro p hp
      rcases List.mem_cons.mp hp with rfl | hp
      · exact Nat.le_succ_of_le l3
      · exact Nat.le_succ_of_le (l7 p hp)
    all_goals (try simp only [List.length_cons]); (first | exact Nat.le_succ_of_le (by assumption) | exact l1_succ (by assumption) | exact l6_succ (by assumption) | exact Nat.succ_le_succ (by assumption) | omega | (constructor <;> omega))
end
end
-- F_b4
section
section
variable {prog : Program} {w : World} {A A₀ : Around} {base : Heap} {outer : List Env} {h₀ : Heap} {L fa : Addr} {cdv : Value} {mean : ExcName → Option Value} {mg mb : Str → Option Value} {loose : List Str} {s : Shared} {Q : Flow → Shared → Prop}
  {kt ks : Nat → Tok} {sp sy rows md mm sd st hp sk tr xl ro ba : Addr} {t1 t2 t3 tb0 tmd tms ts1 : Tok} {nt i : Nat} {q : LSt} {ext : List (Addr × Obj)}
  (B : Below A₀ base outer h₀) (F : Fr h₀ L s.heap (LM sp rows mm q.ca q.pa q.mn q.tmn q.rest)) (X : (kK w.params).In h₀) (T : Top kQ loose mean mg mb h₀) (hA : A.frames = some (lenv L fa cdv :: outer)) (hH : A.handled = none) (hd : A.depth ≤ 310) (hu : A.units ≤ 3100)
  (N : News h₀ L s.heap ((sp, W.listOf q.sv.toArray q.kS) :: ((mm, instObj 534 md) :: (md, dictOf (mD w kt sy rows st xl ro ba t1 t2 t3 tb0 tmd tms q.cp q.tcp q.e q.te q.b q.tb) 18) :: (st, instObj 374 sd) :: (sd, dictOf (sD w ks sy hp sk tr ts1 q.hbv q.thb q.bbv q.tbb) 7) :: (sk, W.listOf (List.toArray q.stk) q.nk) :: (hp, W.listOf (List.toArray q.hpv) q.nh) :: (tr, W.listOf #[] nt) :: (xl, W.listOf (List.toArray q.xs) q.nx) :: (rows, W.listOf (List.toArray q.rws) q.nr) :: q.tl))) (O : LOK prog w sp rows md mm sd st hp sk tr xl ext i q) (hi9 : i ≤ 23)
include B F X T hA hH hd hu N O hi9
theorem t_b4 (hne : 0 < q.pvs.length) (h : ∀ h' tk q', Fr h₀ L h' (LM sp rows mm q'.ca q'.pa q'.mn q'.tmn q'.rest) → News h₀ L h' ((sp, W.listOf q'.sv.toArray q'.kS) :: ((mm, instObj 534 md) :: (md, dictOf (mD w kt sy rows st xl ro ba t1 t2 t3 tb0 tmd tms q'.cp q'.tcp q'.e q'.te q'.b q'.tb) 18) :: (st, instObj 374 sd) :: (sd, dictOf (sD w ks sy hp sk tr ts1 q'.hbv q'.thb q'.bbv q'.tbb) 7) :: (sk, W.listOf (List.toArray q'.stk) q'.nk) :: (hp, W.listOf (List.toArray q'.hpv) q'.nh) :: (tr, W.listOf #[] nt) :: (xl, W.listOf (List.toArray q'.xs) q'.nx) :: (rows, W.listOf (List.toArray q'.rws) q'.nr) :: q'.tl)) → LOK prog w sp rows md mm sd st hp sk tr xl ext (i + 1) q' → Q .next { s with heap := h', toks := tk }) :
    wpAny (model prog w) A (execs br4 (lenv L fa cdv)) Q (fun _ _ => False) s := by
  obtain ⟨hi8, ⟨ns, hs⟩, hsz, geo, hsp, osp, hca, hcv, hpa, hpw, hnd, inv, l1, l2, l3, l4, l5, l6, l7, hx9⟩ := O
  obtain ⟨cp, e, b, hbv, bbv, mn, tcp, te, tb, thb, tbb, tmn, nk, nh, nx, nr, kS, kc, kp, stk, hpv, xs, rws, sv, cvs, pvs, tl, ca, pa, ch, pts, rest⟩ := q
  dsimp only at hs hsz geo osp hca hcv hpa hpw hnd inv l1 l2 l3 l4 l5 l6 l7 hx9 F N
  obtain ⟨o1, o2, o3, o4, o5, o6, o7, o8, hT⟩ := id geo
  obtain ⟨g2, g3, g4, g5, g6, g7, g8⟩ := geo.lts
  have s2 : @LT.lt Nat _ sp md := Nat.lt_trans hsp o1
  have s3 : @LT.lt Nat _ sp mm := Nat.lt_trans s2 o2
  have s4 : @LT.lt Nat _ sp sd := Nat.lt_trans s3 o3
  have s5 : @LT.lt Nat _ sp st := Nat.lt_trans s4 o4
  have s6 : @LT.lt Nat _ sp hp := Nat.lt_trans s5 o5
  have s7 : @LT.lt Nat _ sp sk := Nat.lt_trans s6 o6
  have s8 : @LT.lt Nat _ sp tr := Nat.lt_trans s7 o7
  have s9 : @LT.lt Nat _ sp xl := Nat.lt_trans s8 o8
  have cl1 := hcv.len
  have cl2 := hpw.len
  cases hpw with
  | nil => simp at hne
  | @cons pA vsA p ptA hpA hpw =>
  simp only [List.length_cons] at cl2 l4
  cases hpA with
  | @mk po gA caA u1 u2 u3 u4 ng kcA cvA m1 m2 m3 m4 m5 =>
  have row := inv.p
  obtain ⟨r1, r2, r3, r4, r5, r6, e', b', rw1, r8, r9⟩ := row
  obtain ⟨tn, hn⟩ := rw1.n
  obtain ⟨tx, hx⟩ := rw1.x4
  have hxlt := hx.lt
  have hx0 := rw1.pos
  subst r1
  have hp0 : At (Value.ref pA :: vsA) 0 (.ref pA) := ⟨by omega, by omega, rfl⟩
  show wpAny _ _ (execs _ (envOf _ _ _ _ _)) _ _ _
  delta br4 br4G lname lnameG lscope lscopeG
  repeat' (first | (k_unfold; (try dsimp only)) | ((with_reducible show wpAny _ _ (call (Value.ref _) _) _ _ _); first | ((with_reducible show wpAny _ _ (call (Value.ref 489) _) _ _ _); (k_dflt (refine' c_setalt ?B ?F ?X ?T ?hA ?hf ?hke ?hH ?hd ?hu ?G ?N ?x0 ?x1 ?x2 ?x3 ?_; (case N => tb_rel); (case B => k_asm); (case F => k_asm); (case X => k_asm); (case T => k_asm); (case hA => tb_start); (case hf => tb_start); (case hke => tb_start); (case hH => assumption); (case hd => ktr_room); (case hu => ktr_room); (case G => ktr_rel); (case x0 => first | assumption | ((repeat refine len_step (by assumption) ?_ (by rfl)); exact Nat.le_of_ble_eq_true (by rfl)) | omega); (case x1 => first | assumption | ((repeat refine len_step (by assumption) ?_ (by rfl)); exact Nat.le_of_ble_eq_true (by rfl)) | omega); (case x2 => first | assumption | ((repeat refine len_step (by assumption) ?_ (by rfl)); exact Nat.le_of_ble_eq_true (by rfl)) | omega); (case x3 => first | assumption | ((repeat refine len_step (by assumption) ?_ (by rfl)); exact Nat.le_of_ble_eq_true (by rfl)) | omega); k_whole); (try dsimp only); intro _ _ _ _; (try k_sweep))) | ((with_reducible show wpAny _ _ (call (Value.ref 552) _) _ _ _); (k_dflt (refine' c_choose ?B ?F ?X ?T ?hA ?hf ?hke ?hH ?hd ?hu ?N ?x0 ?x1 ?x2 ?x3 ?x4 ?_; (case N => first | assumption | exact News.sw (by assumption) | exact News.mv9 (by assumption) | exact News.mv9 (News.tail9' (by assumption))); (case B => k_asm); (case F => k_asm); (case X => k_asm); (case T => k_asm); (case hA => tb_start); (case hf => tb_start); (case hke => tb_start); (case hH => assumption); (case hd => ktr_room); (case hu => ktr_room); (case x0 => walk_at "my_off"); (case x1 => assumption); (case x2 => omega); (case x3 => omega); (case x4 => omega); k_whole); (try dsimp only); intro _ _ _ _ _ _ _ _ _ _ _ _ _; (try k_sweep)))) | ((with_reducible show wpAny _ _ (compareOp .NotEq (.ref _) (.ref _)) _ _ _); k_dflt (refine' my_ne_nil ?N ?a ?b ?u ?_ ?_; (case N => k_asm); (case a => walk_at "my_mem"); (case b => exact .head _); (case u => (show _ < _); k_units); k_whole) <;> intro _) | ((with_reducible show wpAny _ _ (binaryOp .Add (.ref _) (.ref _)) _ _ _); k_dflt (refine' my_cat1 ?F ?N ?a ?b ?z ?_; (case F => k_asm); (case N => k_asm); (case a => walk_at "my_mem"); (case b => walk_at "my_mem"); (case z => omega)); intro _ _ _ _ l1; (try k_lt l1); revert l1; intro _; (try k_sweep)) | ((with_reducible show wpAny _ _ (subscriptTail _ _ (Value.ref _) (Value.int _ _)) _ _ _); k_dflt (refine' my_sub ?k1 ?k2 ?k3 ?_ ?k4; (case k1 => k_asm); (case k2 => walk_at "my_mem"); (case k3 => first | assumption | exact At.cast (by assumption) (by omega) | exact At.last (by omega) (by omega)); (case k4 => with_unfolding_all rfl); k_whole)) | ((with_reducible show wpAny _ _ (call (Value.builtin "len") [Value.ref _]) _ _ _); k_dflt (refine' my_len ?k1 ?k2 ?k3 ?_; (case k1 => k_asm); (case k2 => walk_at "my_mem"); (case k3 => omega); k_whole); intro _) | ((with_reducible show wpAny _ _ (setItem (Value.ref _) (Value.str _ _) _) _ _ _); refine Hold.out ?_) | walk1 | (dsimp only; walk1) | (leave1; walk_say "STEP leave1"; try dsimp only) | fail "no step")
  refine Hold.mk ?_
  rename_i hP hP2 tkP F8 N8
  have Nf := News.filt N8 m1
  refine' kda_set (knd := PySem.strKind _ _) F8 Nf (upd_x hT osp m1) m2 (strKind_is _ _ _ _) (by rw [sizeLine_eq]; exact Nat.le_of_ble_eq_true (by with_unfolding_all rfl)) ?_
  intro h9 o9 F9 N9 hd9
  have hd9 : o9.IsDictOf (PySem.strKind prog w) (ptPairs { p with fu := mn + 1 } u1 _ u3 u4 gA caA) := hd9
  repeat' (first | (k_unfold; (try dsimp only)) | ((with_reducible show wpAny _ _ (call (Value.ref _) _) _ _ _); first | ((with_reducible show wpAny _ _ (call (Value.ref 489) _) _ _ _); (k_dflt (refine' c_setalt ?B ?F ?X ?T ?hA ?hf ?hke ?hH ?hd ?hu ?G ?N ?x0 ?x1 ?x2 ?x3 ?_; (case N => tb_rel); (case B => k_asm); (case F => k_asm); (case X => k_asm); (case T => k_asm); (case hA => tb_start); (case hf => tb_start); (case hke => tb_start); (case hH => assumption); (case hd => ktr_room); (case hu => ktr_room); (case G => ktr_rel); (case x0 => first | assumption | ((repeat refine len_step (by assumption) ?_ (by rfl)); exact Nat.le_of_ble_eq_true (by rfl)) | omega); (case x1 => first | assumption | ((repeat refine len_step (by assumption) ?_ (by rfl)); exact Nat.le_of_ble_eq_true (by rfl)) | omega); (case x2 => first | assumption | ((repeat refine len_step (by assumption) ?_ (by rfl)); exact Nat.le_of_ble_eq_true (by rfl)) | omega); (case x3 => first | assumption | ((repeat refine len_step (by assumption) ?_ (by rfl)); exact Nat.le_of_ble_eq_true (by rfl)) | omega); k_whole); (try dsimp only); intro _ _ _ _; (try k_sweep))) | ((with_reducible show wpAny _ _ (call (Value.ref 552) _) _ _ _); (k_dflt (refine' c_choose ?B ?F ?X ?T ?hA ?hf ?hke ?hH ?hd ?hu ?N ?x0 ?x1 ?x2 ?x3 ?x4 ?_; (case N => first | assumption | exact News.sw (by assumption) | exact News.mv9 (by assumption) | exact News.mv9 (News.tail9' (by assumption))); (case B => k_asm); (case F => k_asm); (case X => k_asm); (case T => k_asm); (case hA => tb_start); (case hf => tb_start); (case hke => tb_start); (case hH => assumption); (case hd => ktr_room); (case hu => ktr_room); (case x0 => walk_at "my_off"); (case x1 => assumption); (case x2 => omega); (case x3 => omega); (case x4 => omega); k_whole); (try dsimp only); intro _ _ _ _ _ _ _ _ _ _ _ _ _; (try k_sweep)))) | ((with_reducible show wpAny _ _ (compareOp .NotEq (.ref _) (.ref _)) _ _ _); k_dflt (refine' my_ne_nil ?N ?a ?b ?u ?_ ?_; (case N => k_asm); (case a => walk_at "my_mem"); (case b => exact .head _); (case u => (show _ < _); k_units); k_whole) <;> intro _) | ((with_reducible show wpAny _ _ (binaryOp .Add (.ref _) (.ref _)) _ _ _); k_dflt (refine' my_cat1 ?F ?N ?a ?b ?z ?_; (case F => k_asm); (case N => k_asm); (case a => walk_at "my_mem"); (case b => walk_at "my_mem"); (case z => omega)); intro _ _ _ _ l1; (try k_lt l1); revert l1; intro _; (try k_sweep)) | ((with_reducible show wpAny _ _ (subscriptTail _ _ (Value.ref _) (Value.int _ _)) _ _ _); k_dflt (refine' my_sub ?k1 ?k2 ?k3 ?_ ?k4; (case k1 => k_asm); (case k2 => walk_at "my_mem"); (case k3 => first | assumption | exact At.cast (by assumption) (by omega) | exact At.last (by omega) (by omega)); (case k4 => with_unfolding_all rfl); k_whole)) | ((with_reducible show wpAny _ _ (call (Value.builtin "len") [Value.ref _]) _ _ _); k_dflt (refine' my_len ?k1 ?k2 ?k3 ?_; (case k1 => k_asm); (case k2 => walk_at "my_mem"); (case k3 => omega); k_whole); intro _) | ((with_reducible show wpAny _ _ (setItem (Value.ref _) (Value.str _ _) _) _ _ _); refine Hold.out ?_) | walk1 | (dsimp only; walk1) | (leave1; walk_say "STEP leave1"; try dsimp only) | fail "no step")
  have kp1 := keeps_one (o' := o9) N8 (fun p hp => mem_tl9 (.tail _ hp)) m1 m2
  obtain ⟨hn1, hn2⟩ := List.nodup_cons.mp hnd
  have F10 : Fr h₀ L _ (LM sp rows mm ca pa (mn + 1) _ _) := Fr.lm F9 rfl rfl rfl rfl rfl rfl
  refine h _ _ ⟨cp, e, p.spot, hbv, bbv, mn + 1, tcp, te, tb, thb, tbb, _, nk, nh, nx, nr, kS, kc, kp, stk.set (p.spot + p.gv.length + 4).toNat (Value.int (mn + 1) (s.toks + 1)), hpv, xs, rws, sv, cvs, Value.ref pA :: vsA, _, ca, pa, ch, { p with fu := mn + 1 } :: ptA, _⟩ F10 (News.p0 N9)
    ⟨by omega, ⟨ns, hs⟩, hsz, geo.filt m1, hsp, osp.filt m1, kp1 _ _ hca ⟨_, _, rfl⟩, hcv.keep kp1, kp1 _ _ hpa ⟨_, _, rfl⟩, ?pv, hnd, ?inv, ?l1, ?l2, ?l3, ?l4, ?l5, ?l6, ?l7, fun x hx => ⟨keeps_ext N8 (fun p hp => mem_tl9 (.tail _ hp)) m1 m2 (hx9 x hx).1 (hx9 x hx).2, (hx9 x hx).2⟩⟩
  all_goals dsimp only
  case pv => exact .cons (.mk (.head _) hd9 (kp1 _ _ m3 ⟨_, _, rfl⟩) (kp1 _ _ m4 ⟨_, _, rfl⟩) (m5.keep kp1)) (hpw.keep kp1 (fun a o ha hx => .tail _ (List.mem_filter.mpr ⟨ha, decide_eq_true hx⟩)) hn1)
  case inv => exact (inv.alt (fun k x hk hx => At.set_ne hx hk (by omega)) (At.set_eq (by omega) (by omega) (by omega))).keep kp1
  case l7 =>
    intro x hx
    rcases List.mem_cons.mp hx with rfl | hx
    · exact Nat.le_succ_of_le (l7 p (List.mem_cons_self ..))
    · exact Nat.le_succ_of_le (l7 x (List.mem_cons_of_mem _ hx))
  all_goals (try simp only [List.length_cons, List.length_set]); (first | exact Nat.le_succ_of_le (by assumption) | exact l1_succ (by assumption) | exact l6_succ (by assumption) | exact Nat.succ_le_succ (by assumption) | omega | (constructor <;> omega))
end
end
-- F_b5
section
local macro_rules | `(tactic| walk_at "subscriptTail") => `(tactic| ((with_reducible show wpAny _ _ (subscriptTail _ (PySem.Expr.Slice _ _ none _) (Value.ref _) (Value.ref _)) _ _ _); k_dflt (refine' kmk_slice_lit ?F ?N ?l ?p ?q ?e ?_ ?s ?t ?z; (case F => k_asm); (case N => k_asm); (case l => exact News.isList (by k_asm) (by walk_at "my_mem")); (case p => kmk_part); (case q => kmk_part); (case e => exact pick_x (by assumption) (by assumption)); (case s => with_unfolding_all rfl); (case t => kmk_pure); (case z => rw [List.size_toArray, sizeLine_eq]; omega)); intro D' h' F' N' l1; (try k_lt l1); (try k_sweep); (try dsimp only)))
section
variable {prog : Program} {w : World} {A A₀ : Around} {base : Heap} {outer : List Env} {h₀ : Heap} {L fa : Addr} {cdv : Value} {mean : ExcName → Option Value} {mg mb : Str → Option Value} {loose : List Str} {s : Shared} {Q : Flow → Shared → Prop}
  {kt ks : Nat → Tok} {sp sy rows md mm sd st hp sk tr xl ro ba : Addr} {t1 t2 t3 tb0 tmd tms ts1 : Tok} {nt i : Nat} {q : LSt} {ext : List (Addr × Obj)}
  (B : Below A₀ base outer h₀) (F : Fr h₀ L s.heap (LM sp rows mm q.ca q.pa q.mn q.tmn q.rest)) (X : (kK w.params).In h₀) (T : Top kQ loose mean mg mb h₀) (hA : A.frames = some (lenv L fa cdv :: outer)) (hH : A.handled = none) (hd : A.depth ≤ 310) (hu : A.units ≤ 3100)
  (N : News h₀ L s.heap ((sp, W.listOf q.sv.toArray q.kS) :: ((mm, instObj 534 md) :: (md, dictOf (mD w kt sy rows st xl ro ba t1 t2 t3 tb0 tmd tms q.cp q.tcp q.e q.te q.b q.tb) 18) :: (st, instObj 374 sd) :: (sd, dictOf (sD w ks sy hp sk tr ts1 q.hbv q.thb q.bbv q.tbb) 7) :: (sk, W.listOf (List.toArray q.stk) q.nk) :: (hp, W.listOf (List.toArray q.hpv) q.nh) :: (tr, W.listOf #[] nt) :: (xl, W.listOf (List.toArray q.xs) q.nx) :: (rows, W.listOf (List.toArray q.rws) q.nr) :: q.tl))) (O : LOK prog w sp rows md mm sd st hp sk tr xl ext i q) (hi9 : i ≤ 23)
include B F X T hA hH hd hu N O hi9
theorem t_b5 (hne : 0 < q.pvs.length) (h : ∀ h' tk q', Fr h₀ L h' (LM sp rows mm q'.ca q'.pa q'.mn q'.tmn q'.rest) → News h₀ L h' ((sp, W.listOf q'.sv.toArray q'.kS) :: ((mm, instObj 534 md) :: (md, dictOf (mD w kt sy rows st xl ro ba t1 t2 t3 tb0 tmd tms q'.cp q'.tcp q'.e q'.te q'.b q'.tb) 18) :: (st, instObj 374 sd) :: (sd, dictOf (sD w ks sy hp sk tr ts1 q'.hbv q'.thb q'.bbv q'.tbb) 7) :: (sk, W.listOf (List.toArray q'.stk) q'.nk) :: (hp, W.listOf (List.toArray q'.hpv) q'.nh) :: (tr, W.listOf #[] nt) :: (xl, W.listOf (List.toArray q'.xs) q'.nx) :: (rows, W.listOf (List.toArray q'.rws) q'.nr) :: q'.tl)) → LOK prog w sp rows md mm sd st hp sk tr xl ext (i + 1) q' → Q .next { s with heap := h', toks := tk }) :
    wpAny (model prog w) A (execs br5 (lenv L fa cdv)) Q (fun _ _ => False) s := by
  obtain ⟨hi8, ⟨ns, hs⟩, hsz, geo, hsp, osp, hca, hcv, hpa, hpw, hnd, inv, l1, l2, l3, l4, l5, l6, l7, hx9⟩ := O
  obtain ⟨cp, e, b, hbv, bbv, mn, tcp, te, tb, thb, tbb, tmn, nk, nh, nx, nr, kS, kc, kp, stk, hpv, xs, rws, sv, cvs, pvs, tl, ca, pa, ch, pts, rest⟩ := q
  dsimp only at hs hsz geo osp hca hcv hpa hpw hnd inv l1 l2 l3 l4 l5 l6 l7 hx9 F N
  obtain ⟨o1, o2, o3, o4, o5, o6, o7, o8, hT⟩ := id geo
  obtain ⟨g2, g3, g4, g5, g6, g7, g8⟩ := geo.lts
  have s2 : @LT.lt Nat _ sp md := Nat.lt_trans hsp o1
  have s3 : @LT.lt Nat _ sp mm := Nat.lt_trans s2 o2
  have s4 : @LT.lt Nat _ sp sd := Nat.lt_trans s3 o3
  have s5 : @LT.lt Nat _ sp st := Nat.lt_trans s4 o4
  have s6 : @LT.lt Nat _ sp hp := Nat.lt_trans s5 o5
  have s7 : @LT.lt Nat _ sp sk := Nat.lt_trans s6 o6
  have s8 : @LT.lt Nat _ sp tr := Nat.lt_trans s7 o7
  have s9 : @LT.lt Nat _ sp xl := Nat.lt_trans s8 o8
  have cl1 := hcv.len
  have cl2 := hpw.len
  cases hpw with
  | nil => simp at hne
  | @cons pA vsA p ptA hpA hpw =>
  simp only [List.length_cons] at cl2 l4
  cases hpA with
  | @mk po gA caA u1 u2 u3 u4 ng kcA cvA m1 m2 m3 m4 m5 =>
  obtain ⟨r1, r2, r3, e', b', rw1, inv1, inv2⟩ := inv.restore
  obtain ⟨tn, hn⟩ := rw1.n
  obtain ⟨ta1, ha1⟩ := rw1.x1
  obtain ⟨ta2, ha2⟩ := rw1.x2
  obtain ⟨ta3, ha3⟩ := rw1.x3
  obtain ⟨ta5, ha5⟩ := rw1.x5
  obtain ⟨ta6, ha6⟩ := rw1.x6
  have hx0 := rw1.pos
  have g3 := rw1.g3
  have hgj : ∀ (j : Nat) (x : Value), p.gv[j]? = some x → At stk (p.spot + (1 + (j : Int))) x := fun j x hj => (rw1.g j x hj).cast (by omega)
  have hbq := inv2.p.heap
  subst r1
  have hp0 : At (Value.ref pA :: vsA) 0 (.ref pA) := ⟨by omega, by omega, rfl⟩
  obtain ⟨lx1, lx2⟩ := l6
  show wpAny _ _ (execs _ (envOf _ _ _ _ _)) _ _ _
  delta br5 br5G lname lnameG lscope lscopeG
  repeat' (first | (k_unfold; (try dsimp only)) | ((with_reducible show wpAny _ _ (call (Value.ref _) _) _ _ _); first | ((with_reducible show wpAny _ _ (call (Value.ref 503) _) _ _ _); refine Hold.out ?_) | ((with_reducible show wpAny _ _ (call (Value.ref 510) _) _ _ _); (k_dflt (refine' c_popch ?B ?F ?X ?T ?hA ?hf ?hke ?hH ?hd ?hu ?G ?N ?x0 ?x1 ?x2 ?_; (case N => tb_rel); (case B => k_asm); (case F => k_asm); (case X => k_asm); (case T => k_asm); (case hA => tb_start); (case hf => tb_start); (case hke => tb_start); (case hH => assumption); (case hd => ktr_room); (case hu => ktr_room); (case G => ktr_rel); (case x0 => first | assumption | ((repeat refine len_step (by assumption) ?_ (by rfl)); exact Nat.le_of_ble_eq_true (by rfl)) | omega); (case x1 => first | assumption | ((repeat refine len_step (by assumption) ?_ (by rfl)); exact Nat.le_of_ble_eq_true (by rfl)) | omega); (case x2 => first | assumption | ((repeat refine len_step (by assumption) ?_ (by rfl)); exact Nat.le_of_ble_eq_true (by rfl)) | omega); k_whole); (try dsimp only); intro _ _ _ _ _ _ _ _; (try k_sweep))) | ((with_reducible show wpAny _ _ (call (Value.ref 475) _) _ _ _); (k_dflt (refine' c_setch ?B ?F ?X ?T ?hA ?hf ?hke ?hH ?hd ?hu ?G ?N ?x0 ?_; (case N => tb_rel); (case B => k_asm); (case F => k_asm); (case X => k_asm); (case T => k_asm); (case hA => tb_start); (case hf => tb_start); (case hke => tb_start); (case hH => assumption); (case hd => ktr_room); (case hu => ktr_room); (case G => ktr_rel); (case x0 => first | assumption | exact Or.inr ⟨_, _, _, _, by assumption, by assumption⟩); k_whole); (try dsimp only); intro _ _ _ _ _ _ _ _; (try k_sweep))) | ((with_reducible show wpAny _ _ (call (Value.ref 503) _) _ _ _); (k_dflt (refine' c_restore ?B ?F ?X ?T ?hA ?hf ?hke ?hH ?hd ?hu ?G ?N ?x0 ?x1 ?x2 ?x3 ?x4 ?x5 ?x6 ?x7 ?x8 ?x9 ?x10 ?x11 ?_; (case N => tb_rel); (case B => k_asm); (case F => k_asm); (case X => k_asm); (case T => k_asm); (case hA => tb_start); (case hf => tb_start); (case hke => tb_start); (case hH => assumption); (case hd => ktr_room); (case hu => ktr_room); (case G => ktr_rel); (case x0 => first | assumption | ((repeat refine len_step (by assumption) ?_ (by rfl)); exact Nat.le_of_ble_eq_true (by rfl)) | omega); (case x1 => first | assumption | ((repeat refine len_step (by assumption) ?_ (by rfl)); exact Nat.le_of_ble_eq_true (by rfl)) | omega); (case x2 => first | assumption | ((repeat refine len_step (by assumption) ?_ (by rfl)); exact Nat.le_of_ble_eq_true (by rfl)) | omega); (case x3 => first | assumption | ((repeat refine len_step (by assumption) ?_ (by rfl)); exact Nat.le_of_ble_eq_true (by rfl)) | omega); (case x4 => first | assumption | ((repeat refine len_step (by assumption) ?_ (by rfl)); exact Nat.le_of_ble_eq_true (by rfl)) | omega); (case x5 => first | assumption | ((repeat refine len_step (by assumption) ?_ (by rfl)); exact Nat.le_of_ble_eq_true (by rfl)) | omega); (case x6 => first | assumption | ((repeat refine len_step (by assumption) ?_ (by rfl)); exact Nat.le_of_ble_eq_true (by rfl)) | omega); (case x7 => first | assumption | ((repeat refine len_step (by assumption) ?_ (by rfl)); exact Nat.le_of_ble_eq_true (by rfl)) | omega); (case x8 => first | assumption | ((repeat refine len_step (by assumption) ?_ (by rfl)); exact Nat.le_of_ble_eq_true (by rfl)) | omega); (case x9 => first | assumption | ((repeat refine len_step (by assumption) ?_ (by rfl)); exact Nat.le_of_ble_eq_true (by rfl)) | omega); (case x10 => first | assumption | ((repeat refine len_step (by assumption) ?_ (by rfl)); exact Nat.le_of_ble_eq_true (by rfl)) | omega); (case x11 => first | assumption | ((repeat refine len_step (by assumption) ?_ (by rfl)); exact Nat.le_of_ble_eq_true (by rfl)) | omega); k_whole); (try dsimp only); intro _ _ _ _ _ _ _ _; (try k_sweep))) | ((with_reducible show wpAny _ _ (call (Value.ref 272) _) _ _ _); (k_dflt (refine' c_undo ?B ?F ?X ?T ?hA ?hf ?hke ?hH ?hd ?hu ?G ?N  ?_; (case N => tb_rel); (case B => k_asm); (case F => k_asm); (case X => k_asm); (case T => k_asm); (case hA => tb_start); (case hf => tb_start); (case hke => tb_start); (case hH => assumption); (case hd => ktr_room); (case hu => ktr_room); (case G => ktr_rel); k_whole); (try dsimp only); intro _ _ _ _; (try k_sweep))) | ((with_reducible show wpAny _ _ (call (Value.ref 223) _) _ _ _); (k_dflt (refine' c_trim ?B ?F ?X ?T ?hA ?hf ?hke ?hH ?hd ?hu ?G ?N ?x0 ?x1 ?x2 ?_; (case N => tb_rel); (case B => k_asm); (case F => k_asm); (case X => k_asm); (case T => k_asm); (case hA => tb_start); (case hf => tb_start); (case hke => tb_start); (case hH => assumption); (case hd => ktr_room); (case hu => ktr_room); (case G => ktr_rel); (case x0 => first | assumption | ((repeat refine len_step (by assumption) ?_ (by rfl)); exact Nat.le_of_ble_eq_true (by rfl)) | omega); (case x1 => first | assumption | ((repeat refine len_step (by assumption) ?_ (by rfl)); exact Nat.le_of_ble_eq_true (by rfl)) | omega); (case x2 => first | assumption | ((repeat refine len_step (by assumption) ?_ (by rfl)); exact Nat.le_of_ble_eq_true (by rfl)) | omega); k_whole); (try dsimp only); intro _ _ _ _ _; (try k_sweep))) | ((with_reducible show wpAny _ _ (call (Value.ref 496) _) _ _ _); (k_dflt (refine' c_part ?B ?F ?X ?T ?hA ?hf ?hke ?hH ?hd ?hu ?G ?N ?x0 ?x1 ?_; (case N => tb_rel); (case B => k_asm); (case F => k_asm); (case X => k_asm); (case T => k_asm); (case hA => tb_start); (case hf => tb_start); (case hke => tb_start); (case hH => assumption); (case hd => ktr_room); (case hu => ktr_room); (case G => ktr_rel); (case x0 => first | assumption | ((repeat refine len_step (by assumption) ?_ (by rfl)); exact Nat.le_of_ble_eq_true (by rfl)) | omega); (case x1 => first | assumption | ((repeat refine len_step (by assumption) ?_ (by rfl)); exact Nat.le_of_ble_eq_true (by rfl)) | omega); k_whole); (try dsimp only); intro _ _ _ _; (try k_sweep))) | ((with_reducible show wpAny _ _ (call (Value.ref 405) _) _ _ _); (k_dflt (refine' c_setx ?B ?F ?X ?T ?hA ?hf ?hke ?hH ?hd ?hu ?G ?N ?x0 ?x1 ?x2 ?_; (case N => tb_rel); (case B => k_asm); (case F => k_asm); (case X => k_asm); (case T => k_asm); (case hA => tb_start); (case hf => tb_start); (case hke => tb_start); (case hH => assumption); (case hd => ktr_room); (case hu => ktr_room); (case G => ktr_rel); (case x0 => first | assumption | ((repeat refine len_step (by assumption) ?_ (by rfl)); exact Nat.le_of_ble_eq_true (by rfl)) | omega); (case x1 => first | assumption | ((repeat refine len_step (by assumption) ?_ (by rfl)); exact Nat.le_of_ble_eq_true (by rfl)) | omega); (case x2 => first | assumption | ((repeat refine len_step (by assumption) ?_ (by rfl)); exact Nat.le_of_ble_eq_true (by rfl)) | omega); k_whole); (try dsimp only); intro _ _ _ _ _ _ _; (try k_sweep))) | ((with_reducible show wpAny _ _ (call (Value.ref 552) _) _ _ _); (k_dflt (refine' c_choose ?B ?F ?X ?T ?hA ?hf ?hke ?hH ?hd ?hu ?N ?x0 ?x1 ?x2 ?x3 ?x4 ?_; (case N => first | assumption | exact News.sw (by assumption) | exact News.mv9 (by assumption) | exact News.mv9 (News.tail9' (by assumption))); (case B => k_asm); (case F => k_asm); (case X => k_asm); (case T => k_asm); (case hA => tb_start); (case hf => tb_start); (case hke => tb_start); (case hH => assumption); (case hd => ktr_room); (case hu => ktr_room); (case x0 => walk_at "my_off"); (case x1 => assumption); (case x2 => omega); (case x3 => omega); (case x4 => omega); k_whole); (try dsimp only); intro _ _ _ _ _ _ _ _ _ _ _ _ _; (try k_sweep)))) | ((with_reducible show wpAny _ _ (compareOp .NotEq (.int _ _) (.int _ _)) _ _ _); k_dflt (refine' my_ne_int ?e ?_; (case e => first | rfl | omega); k_whole); (try dsimp only)) | ((with_reducible show wpAny _ _ (compareOp .NotEq (.ref _) (.ref _)) _ _ _); k_dflt (refine' my_ne_same ?N ?a ?b ?u ?_; (case N => k_asm); (case a => exact .head _); (case b => walk_at "my_mem"); (case u => (show _ < _); k_units); k_whole); (try dsimp only)) | ((with_reducible show wpAny _ _ (subscriptTail _ _ (Value.ref _) (Value.str _ _)) _ _ _); k_dflt (refine' kda_item (knd := PySem.strKind _ _) ?a ?b ?c (strKind_is _ _ _ _) ?d ?_; (case a => k_asm); (case b => walk_at "my_mem"); (case c => assumption); (case d => first | assumption | rfl); k_whole); (try dsimp only)) | ((with_reducible show wpAny _ _ (compareOp .NotEq (.ref _) (.ref _)) _ _ _); k_dflt (refine' my_ne_nil ?N ?a ?b ?u ?_ ?_; (case N => k_asm); (case a => walk_at "my_mem"); (case b => exact .head _); (case u => (show _ < _); k_units); k_whole) <;> intro _) | ((with_reducible show wpAny _ _ (binaryOp .Add (.ref _) (.ref _)) _ _ _); k_dflt (refine' my_cat1 ?F ?N ?a ?b ?z ?_; (case F => k_asm); (case N => k_asm); (case a => walk_at "my_mem"); (case b => walk_at "my_mem"); (case z => omega)); intro _ _ _ _ l1; (try k_lt l1); revert l1; intro _; (try k_sweep)) | ((with_reducible show wpAny _ _ (subscriptTail _ _ (Value.ref _) (Value.int _ _)) _ _ _); k_dflt (refine' my_sub ?k1 ?k2 ?k3 ?_ ?k4; (case k1 => k_asm); (case k2 => walk_at "my_mem"); (case k3 => first | assumption | exact At.cast (by assumption) (by omega) | exact At.last (by omega) (by omega)); (case k4 => with_unfolding_all rfl); k_whole)) | ((with_reducible show wpAny _ _ (call (Value.builtin "len") [Value.ref _]) _ _ _); k_dflt (refine' my_len ?k1 ?k2 ?k3 ?_; (case k1 => k_asm); (case k2 => walk_at "my_mem"); (case k3 => omega); k_whole); intro _) | walk1 | (dsimp only; walk1) | (leave1; walk_say "STEP leave1"; try dsimp only) | fail "no step")
  refine Hold.mk ?_
  (try dsimp only)
  (k_dflt (refine' c_restore ?B ?F ?X ?T ?hA ?hf ?hke ?hH ?hd ?hu ?G ?N ?x0 ?x1 ?x2 ?x3 ?x4 ?x5 ?x6 ?x7 ?x8 ?x9 ?x10 ?x11 ?_; (case N => tb_rel); (case B => k_asm); (case F => k_asm); (case X => k_asm); (case T => k_asm); (case hA => tb_start); (case hf => tb_start); (case hke => tb_start); (case hH => assumption); (case hd => ktr_room); (case hu => ktr_room); (case G => ktr_rel); (case x0 => first | assumption | omega); (case x1 => first | assumption | omega); (case x2 => first | assumption | omega); (case x3 => first | assumption | omega); (case x4 => first | assumption | omega); (case x5 => first | assumption | omega); (case x6 => first | assumption | omega); (case x7 => first | assumption | omega); (case x8 => first | assumption | omega); (case x9 => first | assumption | omega); (case x10 => first | assumption | omega); (case x11 => first | assumption | omega); k_whole); (try dsimp only); intro h1 tk1 xs1 nx1 nh1 hs1 F1 N1; (try k_sweep))
  have hxg : ∀ (j : Nat) (x : Value), p.gv[j]? = some x → At xs1 (1 + (j : Int)) x := fun j x hj => hs1 ▸ At.putL_in (by omega) (by omega) (by omega) (by rw [show (1 + (j : Int) - 1).toNat = j by omega]; exact hj) (by omega) (by omega)
  have hxl := putL_len p.gv xs 1 (by omega) (by omega)
  rw [← hs1] at hxl
  have hx1 : 1 ≤ xs1.length := by omega
  have htk : ((hpv.take p.hl.toNat).length : Int) = p.hl := by rw [List.length_take]; omega
  repeat' (first | (k_unfold; (try dsimp only)) | ((with_reducible show wpAny _ _ (call (Value.ref _) _) _ _ _); first | ((with_reducible show wpAny _ _ (call (Value.ref 503) _) _ _ _); refine Hold.out ?_) | ((with_reducible show wpAny _ _ (call (Value.ref 510) _) _ _ _); (k_dflt (refine' c_popch ?B ?F ?X ?T ?hA ?hf ?hke ?hH ?hd ?hu ?G ?N ?x0 ?x1 ?x2 ?_; (case N => tb_rel); (case B => k_asm); (case F => k_asm); (case X => k_asm); (case T => k_asm); (case hA => tb_start); (case hf => tb_start); (case hke => tb_start); (case hH => assumption); (case hd => ktr_room); (case hu => ktr_room); (case G => ktr_rel); (case x0 => first | assumption | ((repeat refine len_step (by assumption) ?_ (by rfl)); exact Nat.le_of_ble_eq_true (by rfl)) | omega); (case x1 => first | assumption | ((repeat refine len_step (by assumption) ?_ (by rfl)); exact Nat.le_of_ble_eq_true (by rfl)) | omega); (case x2 => first | assumption | ((repeat refine len_step (by assumption) ?_ (by rfl)); exact Nat.le_of_ble_eq_true (by rfl)) | omega); k_whole); (try dsimp only); intro _ _ _ _ _ _ _ _; (try k_sweep))) | ((with_reducible show wpAny _ _ (call (Value.ref 475) _) _ _ _); (k_dflt (refine' c_setch ?B ?F ?X ?T ?hA ?hf ?hke ?hH ?hd ?hu ?G ?N ?x0 ?_; (case N => tb_rel); (case B => k_asm); (case F => k_asm); (case X => k_asm); (case T => k_asm); (case hA => tb_start); (case hf => tb_start); (case hke => tb_start); (case hH => assumption); (case hd => ktr_room); (case hu => ktr_room); (case G => ktr_rel); (case x0 => first | assumption | exact Or.inr ⟨_, _, _, _, by assumption, by assumption⟩); k_whole); (try dsimp only); intro _ _ _ _ _ _ _ _; (try k_sweep))) | ((with_reducible show wpAny _ _ (call (Value.ref 503) _) _ _ _); (k_dflt (refine' c_restore ?B ?F ?X ?T ?hA ?hf ?hke ?hH ?hd ?hu ?G ?N ?x0 ?x1 ?x2 ?x3 ?x4 ?x5 ?x6 ?x7 ?x8 ?x9 ?x10 ?x11 ?_; (case N => tb_rel); (case B => k_asm); (case F => k_asm); (case X => k_asm); (case T => k_asm); (case hA => tb_start); (case hf => tb_start); (case hke => tb_start); (case hH => assumption); (case hd => ktr_room); (case hu => ktr_room); (case G => ktr_rel); (case x0 => first | assumption | ((repeat refine len_step (by assumption) ?_ (by rfl)); exact Nat.le_of_ble_eq_true (by rfl)) | omega); (case x1 => first | assumption | ((repeat refine len_step (by assumption) ?_ (by rfl)); exact Nat.le_of_ble_eq_true (by rfl)) | omega); (case x2 => first | assumption | ((repeat refine len_step (by assumption) ?_ (by rfl)); exact Nat.le_of_ble_eq_true (by rfl)) | omega); (case x3 => first | assumption | ((repeat refine len_step (by assumption) ?_ (by rfl)); exact Nat.le_of_ble_eq_true (by rfl)) | omega); (case x4 => first | assumption | ((repeat refine len_step (by assumption) ?_ (by rfl)); exact Nat.le_of_ble_eq_true (by rfl)) | omega); (case x5 => first | assumption | ((repeat refine len_step (by assumption) ?_ (by rfl)); exact Nat.le_of_ble_eq_true (by rfl)) | omega); (case x6 => first | assumption | ((repeat refine len_step (by assumption) ?_ (by rfl)); exact Nat.le_of_ble_eq_true (by rfl)) | omega); (case x7 => first | assumption | ((repeat refine len_step (by assumption) ?_ (by rfl)); exact Nat.le_of_ble_eq_true (by rfl)) | omega); (case x8 => first | assumption | ((repeat refine len_step (by assumption) ?_ (by rfl)); exact Nat.le_of_ble_eq_true (by rfl)) | omega); (case x9 => first | assumption | ((repeat refine len_step (by assumption) ?_ (by rfl)); exact Nat.le_of_ble_eq_true (by rfl)) | omega); (case x10 => first | assumption | ((repeat refine len_step (by assumption) ?_ (by rfl)); exact Nat.le_of_ble_eq_true (by rfl)) | omega); (case x11 => first | assumption | ((repeat refine len_step (by assumption) ?_ (by rfl)); exact Nat.le_of_ble_eq_true (by rfl)) | omega); k_whole); (try dsimp only); intro _ _ _ _ _ _ _ _; (try k_sweep))) | ((with_reducible show wpAny _ _ (call (Value.ref 272) _) _ _ _); (k_dflt (refine' c_undo ?B ?F ?X ?T ?hA ?hf ?hke ?hH ?hd ?hu ?G ?N  ?_; (case N => tb_rel); (case B => k_asm); (case F => k_asm); (case X => k_asm); (case T => k_asm); (case hA => tb_start); (case hf => tb_start); (case hke => tb_start); (case hH => assumption); (case hd => ktr_room); (case hu => ktr_room); (case G => ktr_rel); k_whole); (try dsimp only); intro _ _ _ _; (try k_sweep))) | ((with_reducible show wpAny _ _ (call (Value.ref 223) _) _ _ _); (k_dflt (refine' c_trim ?B ?F ?X ?T ?hA ?hf ?hke ?hH ?hd ?hu ?G ?N ?x0 ?x1 ?x2 ?_; (case N => tb_rel); (case B => k_asm); (case F => k_asm); (case X => k_asm); (case T => k_asm); (case hA => tb_start); (case hf => tb_start); (case hke => tb_start); (case hH => assumption); (case hd => ktr_room); (case hu => ktr_room); (case G => ktr_rel); (case x0 => first | assumption | ((repeat refine len_step (by assumption) ?_ (by rfl)); exact Nat.le_of_ble_eq_true (by rfl)) | omega); (case x1 => first | assumption | ((repeat refine len_step (by assumption) ?_ (by rfl)); exact Nat.le_of_ble_eq_true (by rfl)) | omega); (case x2 => first | assumption | ((repeat refine len_step (by assumption) ?_ (by rfl)); exact Nat.le_of_ble_eq_true (by rfl)) | omega); k_whole); (try dsimp only); intro _ _ _ _ _; (try k_sweep))) | ((with_reducible show wpAny _ _ (call (Value.ref 496) _) _ _ _); (k_dflt (refine' c_part ?B ?F ?X ?T ?hA ?hf ?hke ?hH ?hd ?hu ?G ?N ?x0 ?x1 ?_; (case N => tb_rel); (case B => k_asm); (case F => k_asm); (case X => k_asm); (case T => k_asm); (case hA => tb_start); (case hf => tb_start); (case hke => tb_start); (case hH => assumption); (case hd => ktr_room); (case hu => ktr_room); (case G => ktr_rel); (case x0 => first | assumption | ((repeat refine len_step (by assumption) ?_ (by rfl)); exact Nat.le_of_ble_eq_true (by rfl)) | omega); (case x1 => first | assumption | ((repeat refine len_step (by assumption) ?_ (by rfl)); exact Nat.le_of_ble_eq_true (by rfl)) | omega); k_whole); (try dsimp only); intro _ _ _ _; (try k_sweep))) | ((with_reducible show wpAny _ _ (call (Value.ref 405) _) _ _ _); (k_dflt (refine' c_setx ?B ?F ?X ?T ?hA ?hf ?hke ?hH ?hd ?hu ?G ?N ?x0 ?x1 ?x2 ?_; (case N => tb_rel); (case B => k_asm); (case F => k_asm); (case X => k_asm); (case T => k_asm); (case hA => tb_start); (case hf => tb_start); (case hke => tb_start); (case hH => assumption); (case hd => ktr_room); (case hu => ktr_room); (case G => ktr_rel); (case x0 => first | assumption | ((repeat refine len_step (by assumption) ?_ (by rfl)); exact Nat.le_of_ble_eq_true (by rfl)) | omega); (case x1 => first | assumption | ((repeat refine len_step (by assumption) ?_ (by rfl)); exact Nat.le_of_ble_eq_true (by rfl)) | omega); (case x2 => first | assumption | ((repeat refine len_step (by assumption) ?_ (by rfl)); exact Nat.le_of_ble_eq_true (by rfl)) | omega); k_whole); (try dsimp only); intro _ _ _ _ _ _ _; (try k_sweep))) | ((with_reducible show wpAny _ _ (call (Value.ref 552) _) _ _ _); (k_dflt (refine' c_choose ?B ?F ?X ?T ?hA ?hf ?hke ?hH ?hd ?hu ?N ?x0 ?x1 ?x2 ?x3 ?x4 ?_; (case N => first | assumption | exact News.sw (by assumption) | exact News.mv9 (by assumption) | exact News.mv9 (News.tail9' (by assumption))); (case B => k_asm); (case F => k_asm); (case X => k_asm); (case T => k_asm); (case hA => tb_start); (case hf => tb_start); (case hke => tb_start); (case hH => assumption); (case hd => ktr_room); (case hu => ktr_room); (case x0 => walk_at "my_off"); (case x1 => assumption); (case x2 => omega); (case x3 => omega); (case x4 => omega); k_whole); (try dsimp only); intro _ _ _ _ _ _ _ _ _ _ _ _ _; (try k_sweep)))) | ((with_reducible show wpAny _ _ (compareOp .NotEq (.int _ _) (.int _ _)) _ _ _); k_dflt (refine' my_ne_int ?e ?_; (case e => first | rfl | omega); k_whole); (try dsimp only)) | ((with_reducible show wpAny _ _ (compareOp .NotEq (.ref _) (.ref _)) _ _ _); k_dflt (refine' my_ne_same ?N ?a ?b ?u ?_; (case N => k_asm); (case a => exact .head _); (case b => walk_at "my_mem"); (case u => (show _ < _); k_units); k_whole); (try dsimp only)) | ((with_reducible show wpAny _ _ (subscriptTail _ _ (Value.ref _) (Value.str _ _)) _ _ _); k_dflt (refine' kda_item (knd := PySem.strKind _ _) ?a ?b ?c (strKind_is _ _ _ _) ?d ?_; (case a => k_asm); (case b => walk_at "my_mem"); (case c => assumption); (case d => first | assumption | rfl); k_whole); (try dsimp only)) | ((with_reducible show wpAny _ _ (compareOp .NotEq (.ref _) (.ref _)) _ _ _); k_dflt (refine' my_ne_nil ?N ?a ?b ?u ?_ ?_; (case N => k_asm); (case a => walk_at "my_mem"); (case b => exact .head _); (case u => (show _ < _); k_units); k_whole) <;> intro _) | ((with_reducible show wpAny _ _ (binaryOp .Add (.ref _) (.ref _)) _ _ _); k_dflt (refine' my_cat1 ?F ?N ?a ?b ?z ?_; (case F => k_asm); (case N => k_asm); (case a => walk_at "my_mem"); (case b => walk_at "my_mem"); (case z => omega)); intro _ _ _ _ l1; (try k_lt l1); revert l1; intro _; (try k_sweep)) | ((with_reducible show wpAny _ _ (subscriptTail _ _ (Value.ref _) (Value.int _ _)) _ _ _); k_dflt (refine' my_sub ?k1 ?k2 ?k3 ?_ ?k4; (case k1 => k_asm); (case k2 => walk_at "my_mem"); (case k3 => first | assumption | exact At.cast (by assumption) (by omega) | exact At.last (by omega) (by omega)); (case k4 => with_unfolding_all rfl); k_whole)) | ((with_reducible show wpAny _ _ (call (Value.builtin "len") [Value.ref _]) _ _ _); k_dflt (refine' my_len ?k1 ?k2 ?k3 ?_; (case k1 => k_asm); (case k2 => walk_at "my_mem"); (case k3 => omega); k_whole); intro _) | walk1 | (dsimp only; walk1) | (leave1; walk_say "STEP leave1"; try dsimp only) | fail "no step")
  · rename_i svA nsA kA z tz hiA hzA hz0 hz1 ez hQ tkQ hb9 thb9 bb9 tbb9 D1 hR l1a hS F8 N8
    have F10 : Fr h₀ L _ (LM sp rows mm caA D1 mn tmn _) := Fr.lm F8 rfl rfl rfl rfl rfl rfl
    have g2 : Geo rows md mm sd st hp sk tr xl ((D1, W.listOf (List.toArray vsA) 0) :: tl) := by ktr_rel
    have g3' : Off [sp] ((D1, W.listOf (List.toArray vsA) 0) :: tl) := by walk_at "my_off"
    have sub : ∀ p ∈ tl, p ∈ ((D1, W.listOf (List.toArray vsA) 0) :: tl) := fun p hp => .tail _ hp
    refine h _ _ ⟨p.cp, e', b', hb9, bb9, mn, ta2, ta1, ta3, thb9, tbb9, tmn, nk, nh1, nx1, nr, kA, kcA, 0, stk, hpv.take p.hl.toNat, xs1, rws, svA, cvA, vsA, (D1, W.listOf (List.toArray vsA) 0) :: tl, caA, D1, p.ch, ptA, _⟩ F10 (News.p1 N8)
      ⟨by omega, ⟨nsA, hiA⟩, by dsimp only; omega, g2, hsp, g3', sub _ m4, m5.mono sub, .head _, hpw.mono sub, (List.nodup_cons.mp hnd).2, inv2.subH sub (by dsimp only; omega), ?l1, ?l2, ?l3, ?l4, ?l5, ?l6, ?l7, fun x hx => ⟨sub _ (hx9 x hx).1, (hx9 x hx).2⟩⟩
    all_goals dsimp only
    case l3 => exact Nat.le_succ_of_le (l7 p (List.mem_cons_self ..))
    case l7 => exact fun x hx => Nat.le_succ_of_le (l7 x (List.mem_cons_of_mem _ hx))
    all_goals (first | exact Nat.le_succ_of_le (by assumption) | exact l1_succ (by assumption) | exact l6_succ (by assumption) | exact Nat.succ_le_succ (by assumption) | omega | (constructor <;> omega))
  · rename_i svA nsA kA z tz hiA hzA hz0 hz1 F8 N8 ez
    have F10 : Fr h₀ L _ (LM sp rows mm caA pa mn tmn _) := Fr.lm F8 rfl rfl rfl rfl rfl rfl
    refine h _ _ ⟨p.cp, e', p.spot, hbv, bbv, mn, ta2, ta1, tb, thb, tbb, tmn, nk, nh1, nx1, nr, kA, kcA, kp, stk, hpv.take p.hl.toNat, xs1, rws, svA, cvA, Value.ref pA :: vsA, tl, caA, pa, p.ch, p :: ptA, _⟩ F10 N8
      ⟨by omega, ⟨nsA, hiA⟩, by dsimp only; omega, geo, hsp, osp, m4, m5, hpa, .cons (.mk m1 m2 m3 m4 m5) hpw, hnd, inv1.subH (fun _ h => h) (by dsimp only; omega), ?l1c, ?l2c, ?l3c, ?l4c, ?l5c, ?l6c, ?l7c, hx9⟩
    all_goals dsimp only
    case l3c => exact Nat.le_succ_of_le (l7 p (List.mem_cons_self ..))
    case l7c => exact fun x hx => Nat.le_succ_of_le (l7 x hx)
    all_goals (try simp only [List.length_cons]); (first | exact Nat.le_succ_of_le (by assumption) | exact l1_succ (by assumption) | exact l6_succ (by assumption) | exact Nat.succ_le_succ (by assumption) | omega | (constructor <;> omega))
end
end
-- F_b6
section
local macro_rules | `(tactic| walk_at "none such") => `(tactic| skip)
local macro_rules | `(tactic| walk_at "none such") => `(tactic| skip)
section
variable {prog : Program} {w : World} {A A₀ : Around} {base : Heap} {outer : List Env} {h₀ : Heap} {L fa : Addr} {cdv : Value} {mean : ExcName → Option Value} {mg mb : Str → Option Value} {loose : List Str} {s : Shared} {Q : Flow → Shared → Prop}
  {kt ks : Nat → Tok} {sp sy rows md mm sd st hp sk tr xl ro ba : Addr} {t1 t2 t3 tb0 tmd tms ts1 : Tok} {nt i : Nat} {q : LSt} {ext : List (Addr × Obj)}
  (B : Below A₀ base outer h₀) (F : Fr h₀ L s.heap (LM sp rows mm q.ca q.pa q.mn q.tmn q.rest)) (X : (kK w.params).In h₀) (T : Top kQ loose mean mg mb h₀) (hA : A.frames = some (lenv L fa cdv :: outer)) (hH : A.handled = none) (hd : A.depth ≤ 310) (hu : A.units ≤ 3100)
  (N : News h₀ L s.heap ((sp, W.listOf q.sv.toArray q.kS) :: ((mm, instObj 534 md) :: (md, dictOf (mD w kt sy rows st xl ro ba t1 t2 t3 tb0 tmd tms q.cp q.tcp q.e q.te q.b q.tb) 18) :: (st, instObj 374 sd) :: (sd, dictOf (sD w ks sy hp sk tr ts1 q.hbv q.thb q.bbv q.tbb) 7) :: (sk, W.listOf (List.toArray q.stk) q.nk) :: (hp, W.listOf (List.toArray q.hpv) q.nh) :: (tr, W.listOf #[] nt) :: (xl, W.listOf (List.toArray q.xs) q.nx) :: (rows, W.listOf (List.toArray q.rws) q.nr) :: q.tl))) (O : LOK prog w sp rows md mm sd st hp sk tr xl ext i q) (hi9 : i ≤ 23)
include B F X T hA hH hd hu N O hi9
theorem t_b6 (h : ∀ h' tk q', Fr h₀ L h' (LM sp rows mm q'.ca q'.pa q'.mn q'.tmn q'.rest) → News h₀ L h' ((sp, W.listOf q'.sv.toArray q'.kS) :: ((mm, instObj 534 md) :: (md, dictOf (mD w kt sy rows st xl ro ba t1 t2 t3 tb0 tmd tms q'.cp q'.tcp q'.e q'.te q'.b q'.tb) 18) :: (st, instObj 374 sd) :: (sd, dictOf (sD w ks sy hp sk tr ts1 q'.hbv q'.thb q'.bbv q'.tbb) 7) :: (sk, W.listOf (List.toArray q'.stk) q'.nk) :: (hp, W.listOf (List.toArray q'.hpv) q'.nh) :: (tr, W.listOf #[] nt) :: (xl, W.listOf (List.toArray q'.xs) q'.nx) :: (rows, W.listOf (List.toArray q'.rws) q'.nr) :: q'.tl)) → LOK prog w sp rows md mm sd st hp sk tr xl ext (i + 1) q' → Q .next { s with heap := h', toks := tk }) :
    wpAny (model prog w) A (execs br6 (lenv L fa cdv)) Q (fun _ _ => False) s := by
  obtain ⟨hi8, ⟨ns, hs⟩, hsz, geo, hsp, osp, hca, hcv, hpa, hpw, hnd, inv, l1, l2, l3, l4, l5, l6, l7, hx9⟩ := O
  obtain ⟨cp, e, b, hbv, bbv, mn, tcp, te, tb, thb, tbb, tmn, nk, nh, nx, nr, kS, kc, kp, stk, hpv, xs, rws, sv, cvs, pvs, tl, ca, pa, ch, pts, rest⟩ := q
  dsimp only at hs hsz geo osp hca hcv hpa hpw hnd inv l1 l2 l3 l4 l5 l6 l7 hx9 F N
  obtain ⟨o1, o2, o3, o4, o5, o6, o7, o8, hT⟩ := id geo
  obtain ⟨g2, g3, g4, g5, g6, g7, g8⟩ := geo.lts
  have s2 : @LT.lt Nat _ sp md := Nat.lt_trans hsp o1
  have s3 : @LT.lt Nat _ sp mm := Nat.lt_trans s2 o2
  have s4 : @LT.lt Nat _ sp sd := Nat.lt_trans s3 o3
  have s5 : @LT.lt Nat _ sp st := Nat.lt_trans s4 o4
  have s6 : @LT.lt Nat _ sp hp := Nat.lt_trans s5 o5
  have s7 : @LT.lt Nat _ sp sk := Nat.lt_trans s6 o6
  have s8 : @LT.lt Nat _ sp tr := Nat.lt_trans s7 o7
  have s9 : @LT.lt Nat _ sp xl := Nat.lt_trans s8 o8
  have cl1 := hcv.len
  have cl2 := hpw.len
  obtain ⟨hbm, hble⟩ := inv.p.le
  show wpAny _ _ (execs _ (envOf _ _ _ _ _)) _ _ _
  delta br6 br6G lname lnameG lscope lscopeG
  repeat' (first | (k_unfold; (try dsimp only)) | ((with_reducible show wpAny _ _ (call (Value.ref _) _) _ _ _); first | ((with_reducible show wpAny _ _ (call (Value.ref 209) _) _ _ _); (k_dflt (refine' c_newvar ?B ?F ?X ?T ?hA ?hf ?hke ?hH ?hd ?hu ?G ?N ?x0 ?_; (case N => tb_rel); (case B => k_asm); (case F => k_asm); (case X => k_asm); (case T => k_asm); (case hA => tb_start); (case hf => tb_start); (case hke => tb_start); (case hH => assumption); (case hd => ktr_room); (case hu => ktr_room); (case G => ktr_rel); (case x0 => first | assumption | ((repeat refine len_step (by assumption) ?_ (by rfl)); exact Nat.le_of_ble_eq_true (by rfl)) | omega); k_whole); (try dsimp only); intro _ _ _ _ _ _ _; (try k_sweep))) | ((with_reducible show wpAny _ _ (call (Value.ref 517) _) _ _ _); (k_dflt (refine' c_cut ?B ?F ?X ?T ?hA ?hf ?hke ?hH ?hd ?hu ?G ?N ?x0 ?x1 ?_; (case N => tb_rel); (case B => k_asm); (case F => k_asm); (case X => k_asm); (case T => k_asm); (case hA => tb_start); (case hf => tb_start); (case hke => tb_start); (case hH => assumption); (case hd => ktr_room); (case hu => ktr_room); (case G => ktr_rel); (case x0 => first | assumption | exact fun _ => Or.inl (by omega) | exact fun _ => Or.inr (by assumption)); (case x1 => omega); k_whole); (try dsimp only); intro _ _ _ _ _ _ _ _ _; (try k_sweep))) | ((with_reducible show wpAny _ _ (call (Value.ref 475) _) _ _ _); (k_dflt (refine' c_setch ?B ?F ?X ?T ?hA ?hf ?hke ?hH ?hd ?hu ?G ?N ?x0 ?_; (case N => tb_rel); (case B => k_asm); (case F => k_asm); (case X => k_asm); (case T => k_asm); (case hA => tb_start); (case hf => tb_start); (case hke => tb_start); (case hH => assumption); (case hd => ktr_room); (case hu => ktr_room); (case G => ktr_rel); (case x0 => first | assumption | exact Or.inr ⟨_, _, _, _, by assumption, by assumption⟩); k_whole); (try dsimp only); intro _ _ _ _ _ _ _ _; (try k_sweep))) | ((with_reducible show wpAny _ _ (call (Value.ref 552) _) _ _ _); (k_dflt (refine' c_choose ?B ?F ?X ?T ?hA ?hf ?hke ?hH ?hd ?hu ?N ?x0 ?x1 ?x2 ?x3 ?x4 ?_; (case N => first | assumption | exact News.sw (by assumption) | exact News.mv9 (by assumption) | exact News.mv9 (News.tail9' (by assumption))); (case B => k_asm); (case F => k_asm); (case X => k_asm); (case T => k_asm); (case hA => tb_start); (case hf => tb_start); (case hke => tb_start); (case hH => assumption); (case hd => ktr_room); (case hu => ktr_room); (case x0 => walk_at "my_off"); (case x1 => assumption); (case x2 => omega); (case x3 => omega); (case x4 => omega); k_whole); (try dsimp only); intro _ _ _ _ _ _ _ _ _ _ _ _ _; (try k_sweep)))) | ((with_reducible show wpAny _ _ (compareOp .NotEq (.ref _) (.ref _)) _ _ _); refine Hold.out ?_) | ((with_reducible show wpAny _ _ (compareOp .NotEq (.ref _) (.ref _)) _ _ _); k_dflt (refine' my_ne_nil ?N ?a ?b ?u ?_ ?_; (case N => k_asm); (case a => walk_at "my_mem"); (case b => exact .head _); (case u => (show _ < _); k_units); k_whole) <;> intro _) | ((with_reducible show wpAny _ _ (binaryOp .Add (.ref _) (.ref _)) _ _ _); k_dflt (refine' my_cat1 ?F ?N ?a ?b ?z ?_; (case F => k_asm); (case N => k_asm); (case a => walk_at "my_mem"); (case b => walk_at "my_mem"); (case z => omega)); intro _ _ _ _ l1; (try k_lt l1); revert l1; intro _; (try k_sweep)) | ((with_reducible show wpAny _ _ (subscriptTail _ _ (Value.ref _) (Value.int _ _)) _ _ _); k_dflt (refine' my_sub ?k1 ?k2 ?k3 ?_ ?k4; (case k1 => k_asm); (case k2 => walk_at "my_mem"); (case k3 => first | assumption | exact At.cast (by assumption) (by omega) | exact At.last (by omega) (by omega)); (case k4 => with_unfolding_all rfl); k_whole)) | ((with_reducible show wpAny _ _ (call (Value.builtin "len") [Value.ref _]) _ _ _); k_dflt (refine' my_len ?k1 ?k2 ?k3 ?_; (case k1 => k_asm); (case k2 => walk_at "my_mem"); (case k3 => omega); k_whole); intro _) | ((with_reducible show wpAny _ _ (subscriptTail _ _ (Value.ref _) (Value.str _ _)) _ _ _); k_dflt (refine' kda_item (knd := PySem.strKind _ _) ?a ?b ?c (strKind_is _ _ _ _) ?d ?_; (case a => k_asm); (case b => walk_at "my_mem"); (case c => assumption); (case d => first | assumption | rfl); k_whole)) | walk1 | (dsimp only; walk1) | (leave1; walk_say "STEP leave1"; try dsimp only) | fail "no step")
  refine Hold.mk ?_
  (try dsimp only)
  rename_i vsA nsA kA z tz hiA hzA hz0 hz1 hP tkP tP D1 hQ l1a hR l2' hS F8 N8 l1b
  have hdp := hpw.drop ((pvs.length : Int) - z).toNat
  have hdl : (pts.drop ((pvs.length : Int) - z).toNat).length ≤ pts.length := by simp
  obtain ⟨b9, hb9, inv9⟩ := inv.cut ((pvs.length : Int) - z).toNat
  have hnd9 : (pvs.drop ((pvs.length : Int) - z).toNat).Nodup := hnd.sublist (List.drop_sublist ..)
  have hsub : ∀ p ∈ pts.drop ((pvs.length : Int) - z).toNat, p ∈ pts := fun p hp => List.mem_of_mem_drop hp
  generalize pvs.drop ((pvs.length : Int) - z).toNat = dv at hdp hnd9 N8
  generalize pts.drop ((pvs.length : Int) - z).toNat = dq at hdp hb9 inv9 hsub hdl
  have hdp2 := hdp
  obtain ⟨v, hv, v0, v1, vc, vp⟩ := top_ok inv9.c inv9.p inv9.s
  refine' my_ne_nil N8 (.tail _ (.head _)) (.head _) (by (show _ < _); k_units) ?nil ?cons
  case nil =>
    intro e1
    subst e1
    cases hdp
    dsimp only at hb9
    subst hb9
    repeat' (first | (k_unfold; (try dsimp only)) | ((with_reducible show wpAny _ _ (call (Value.ref _) _) _ _ _); first | ((with_reducible show wpAny _ _ (call (Value.ref 209) _) _ _ _); (k_dflt (refine' c_newvar ?B ?F ?X ?T ?hA ?hf ?hke ?hH ?hd ?hu ?G ?N ?x0 ?_; (case N => tb_rel); (case B => k_asm); (case F => k_asm); (case X => k_asm); (case T => k_asm); (case hA => tb_start); (case hf => tb_start); (case hke => tb_start); (case hH => assumption); (case hd => ktr_room); (case hu => ktr_room); (case G => ktr_rel); (case x0 => first | assumption | ((repeat refine len_step (by assumption) ?_ (by rfl)); exact Nat.le_of_ble_eq_true (by rfl)) | omega); k_whole); (try dsimp only); intro _ _ _ _ _ _ _; (try k_sweep))) | ((with_reducible show wpAny _ _ (call (Value.ref 517) _) _ _ _); (k_dflt (refine' c_cut ?B ?F ?X ?T ?hA ?hf ?hke ?hH ?hd ?hu ?G ?N ?x0 ?x1 ?_; (case N => tb_rel); (case B => k_asm); (case F => k_asm); (case X => k_asm); (case T => k_asm); (case hA => tb_start); (case hf => tb_start); (case hke => tb_start); (case hH => assumption); (case hd => ktr_room); (case hu => ktr_room); (case G => ktr_rel); (case x0 => first | assumption | exact fun _ => Or.inl (by omega) | exact fun _ => Or.inr (by assumption)); (case x1 => omega); k_whole); (try dsimp only); intro _ _ _ _ _ _ _ _ _; (try k_sweep))) | ((with_reducible show wpAny _ _ (call (Value.ref 475) _) _ _ _); (k_dflt (refine' c_setch ?B ?F ?X ?T ?hA ?hf ?hke ?hH ?hd ?hu ?G ?N ?x0 ?_; (case N => tb_rel); (case B => k_asm); (case F => k_asm); (case X => k_asm); (case T => k_asm); (case hA => tb_start); (case hf => tb_start); (case hke => tb_start); (case hH => assumption); (case hd => ktr_room); (case hu => ktr_room); (case G => ktr_rel); (case x0 => first | assumption | exact Or.inr ⟨_, _, _, _, by assumption, by assumption⟩); k_whole); (try dsimp only); intro _ _ _ _ _ _ _ _; (try k_sweep))) | ((with_reducible show wpAny _ _ (call (Value.ref 552) _) _ _ _); (k_dflt (refine' c_choose ?B ?F ?X ?T ?hA ?hf ?hke ?hH ?hd ?hu ?N ?x0 ?x1 ?x2 ?x3 ?x4 ?_; (case N => first | assumption | exact News.sw (by assumption) | exact News.mv9 (by assumption) | exact News.mv9 (News.tail9' (by assumption))); (case B => k_asm); (case F => k_asm); (case X => k_asm); (case T => k_asm); (case hA => tb_start); (case hf => tb_start); (case hke => tb_start); (case hH => assumption); (case hd => ktr_room); (case hu => ktr_room); (case x0 => walk_at "my_off"); (case x1 => assumption); (case x2 => omega); (case x3 => omega); (case x4 => omega); k_whole); (try dsimp only); intro _ _ _ _ _ _ _ _ _ _ _ _ _; (try k_sweep)))) | ((with_reducible show wpAny _ _ (compareOp .NotEq (.ref _) (.ref _)) _ _ _); refine Hold.out ?_) | ((with_reducible show wpAny _ _ (compareOp .NotEq (.ref _) (.ref _)) _ _ _); k_dflt (refine' my_ne_nil ?N ?a ?b ?u ?_ ?_; (case N => k_asm); (case a => walk_at "my_mem"); (case b => exact .head _); (case u => (show _ < _); k_units); k_whole) <;> intro _) | ((with_reducible show wpAny _ _ (binaryOp .Add (.ref _) (.ref _)) _ _ _); k_dflt (refine' my_cat1 ?F ?N ?a ?b ?z ?_; (case F => k_asm); (case N => k_asm); (case a => walk_at "my_mem"); (case b => walk_at "my_mem"); (case z => omega)); intro _ _ _ _ l1; (try k_lt l1); revert l1; intro _; (try k_sweep)) | ((with_reducible show wpAny _ _ (subscriptTail _ _ (Value.ref _) (Value.int _ _)) _ _ _); k_dflt (refine' my_sub ?k1 ?k2 ?k3 ?_ ?k4; (case k1 => k_asm); (case k2 => walk_at "my_mem"); (case k3 => first | assumption | exact At.cast (by assumption) (by omega) | exact At.last (by omega) (by omega)); (case k4 => with_unfolding_all rfl); k_whole)) | ((with_reducible show wpAny _ _ (call (Value.builtin "len") [Value.ref _]) _ _ _); k_dflt (refine' my_len ?k1 ?k2 ?k3 ?_; (case k1 => k_asm); (case k2 => walk_at "my_mem"); (case k3 => omega); k_whole); intro _) | ((with_reducible show wpAny _ _ (subscriptTail _ _ (Value.ref _) (Value.str _ _)) _ _ _); k_dflt (refine' kda_item (knd := PySem.strKind _ _) ?a ?b ?c (strKind_is _ _ _ _) ?d ?_; (case a => k_asm); (case b => walk_at "my_mem"); (case c => assumption); (case d => first | assumption | rfl); k_whole)) | walk1 | (dsimp only; walk1) | (leave1; walk_say "STEP leave1"; try dsimp only) | fail "no step")
    rename_i hA1 tkA1 tb9 hb9 thb9 bb9 tbb9 hA2 tkA2 u9 nh9 v9 F9 N9
    have F10 : Fr h₀ L _ (LM sp rows mm ca D1 mn tmn _) := Fr.lm F9 rfl rfl rfl rfl rfl rfl
    have g2 : Geo rows md mm sd st hp sk tr xl ((D1, W.listOf (List.toArray []) 0) :: tl) := by ktr_rel
    have g3 : Off [sp] ((D1, W.listOf (List.toArray []) 0) :: tl) := by walk_at "my_off"
    have sub : ∀ p ∈ tl, p ∈ ((D1, W.listOf (List.toArray []) 0) :: tl) := fun p hp => .tail _ hp
    refine h _ _ ⟨cp, e, (-1), hb9, bb9, mn, tcp, te, tb9, thb9, tbb9, tmn, nk, nh9, nx, nr, kA, kc, 0, stk, hpv ++ [u9], xs, rws, vsA, cvs, [], (D1, W.listOf (List.toArray []) 0) :: tl, ca, D1, ch, [], _⟩ F10 (News.b6 N9)
      ⟨by omega, ⟨nsA, hiA⟩, by dsimp only; omega, g2, hsp, g3, sub _ hca, hcv.mono sub, .head _, ?pv, ?nd, ?inv, ?l1, ?l2, ?l3, ?l4, ?l5, ?l6, ?l7, fun x hx => ⟨sub _ (hx9 x hx).1, (hx9 x hx).2⟩⟩
    all_goals dsimp only
    case l7 => exact fun p hp => Nat.le_succ_of_le (l7 p (hsub p hp))
    case pv => exact hdp2.mono sub
    case nd => exact hnd9
    case inv => exact inv9.subH sub (by simp; omega)
    all_goals (try simp only [List.length_append, List.length_cons, List.length_nil] at hdl ⊢); (first | exact Nat.le_succ_of_le (by assumption) | exact l1_succ (by assumption) | exact l6_succ (by assumption) | exact Nat.succ_le_succ (by assumption) | omega | (constructor <;> omega))
  case cons =>
    intro e1
    cases hdp with
    | nil => simp at e1
    | @cons pX vsX pq dX hX hdp =>
    cases hX with
    | @mk po gX caX u1 u2 u3 u4 ng kcX cvX m1 m2 m3 m4 m5 =>
    dsimp only at hb9
    subst hb9
    obtain ⟨r1, r2, r3, r4, r5, r6, e', b', rw1, r8, r9⟩ := id inv9.p
    have hrow := rw1.heap
    have hlb := hble pq (hsub pq (List.mem_cons_self ..))
    have hp0 : At (Value.ref pX :: vsX) 0 (.ref pX) := ⟨by omega, by omega, rfl⟩
    repeat' (first | (k_unfold; (try dsimp only)) | ((with_reducible show wpAny _ _ (call (Value.ref _) _) _ _ _); first | ((with_reducible show wpAny _ _ (call (Value.ref 209) _) _ _ _); (k_dflt (refine' c_newvar ?B ?F ?X ?T ?hA ?hf ?hke ?hH ?hd ?hu ?G ?N ?x0 ?_; (case N => tb_rel); (case B => k_asm); (case F => k_asm); (case X => k_asm); (case T => k_asm); (case hA => tb_start); (case hf => tb_start); (case hke => tb_start); (case hH => assumption); (case hd => ktr_room); (case hu => ktr_room); (case G => ktr_rel); (case x0 => first | assumption | ((repeat refine len_step (by assumption) ?_ (by rfl)); exact Nat.le_of_ble_eq_true (by rfl)) | omega); k_whole); (try dsimp only); intro _ _ _ _ _ _ _; (try k_sweep))) | ((with_reducible show wpAny _ _ (call (Value.ref 517) _) _ _ _); (k_dflt (refine' c_cut ?B ?F ?X ?T ?hA ?hf ?hke ?hH ?hd ?hu ?G ?N ?x0 ?x1 ?_; (case N => tb_rel); (case B => k_asm); (case F => k_asm); (case X => k_asm); (case T => k_asm); (case hA => tb_start); (case hf => tb_start); (case hke => tb_start); (case hH => assumption); (case hd => ktr_room); (case hu => ktr_room); (case G => ktr_rel); (case x0 => first | assumption | exact fun _ => Or.inl (by omega) | exact fun _ => Or.inr (by assumption)); (case x1 => omega); k_whole); (try dsimp only); intro _ _ _ _ _ _ _ _ _; (try k_sweep))) | ((with_reducible show wpAny _ _ (call (Value.ref 475) _) _ _ _); (k_dflt (refine' c_setch ?B ?F ?X ?T ?hA ?hf ?hke ?hH ?hd ?hu ?G ?N ?x0 ?_; (case N => tb_rel); (case B => k_asm); (case F => k_asm); (case X => k_asm); (case T => k_asm); (case hA => tb_start); (case hf => tb_start); (case hke => tb_start); (case hH => assumption); (case hd => ktr_room); (case hu => ktr_room); (case G => ktr_rel); (case x0 => first | assumption | exact Or.inr ⟨_, _, _, _, by assumption, by assumption⟩); k_whole); (try dsimp only); intro _ _ _ _ _ _ _ _; (try k_sweep))) | ((with_reducible show wpAny _ _ (call (Value.ref 552) _) _ _ _); (k_dflt (refine' c_choose ?B ?F ?X ?T ?hA ?hf ?hke ?hH ?hd ?hu ?N ?x0 ?x1 ?x2 ?x3 ?x4 ?_; (case N => first | assumption | exact News.sw (by assumption) | exact News.mv9 (by assumption) | exact News.mv9 (News.tail9' (by assumption))); (case B => k_asm); (case F => k_asm); (case X => k_asm); (case T => k_asm); (case hA => tb_start); (case hf => tb_start); (case hke => tb_start); (case hH => assumption); (case hd => ktr_room); (case hu => ktr_room); (case x0 => walk_at "my_off"); (case x1 => assumption); (case x2 => omega); (case x3 => omega); (case x4 => omega); k_whole); (try dsimp only); intro _ _ _ _ _ _ _ _ _ _ _ _ _; (try k_sweep)))) | ((with_reducible show wpAny _ _ (compareOp .NotEq (.ref _) (.ref _)) _ _ _); refine Hold.out ?_) | ((with_reducible show wpAny _ _ (compareOp .NotEq (.ref _) (.ref _)) _ _ _); k_dflt (refine' my_ne_nil ?N ?a ?b ?u ?_ ?_; (case N => k_asm); (case a => walk_at "my_mem"); (case b => exact .head _); (case u => (show _ < _); k_units); k_whole) <;> intro _) | ((with_reducible show wpAny _ _ (binaryOp .Add (.ref _) (.ref _)) _ _ _); k_dflt (refine' my_cat1 ?F ?N ?a ?b ?z ?_; (case F => k_asm); (case N => k_asm); (case a => walk_at "my_mem"); (case b => walk_at "my_mem"); (case z => omega)); intro _ _ _ _ l1; (try k_lt l1); revert l1; intro _; (try k_sweep)) | ((with_reducible show wpAny _ _ (subscriptTail _ _ (Value.ref _) (Value.int _ _)) _ _ _); k_dflt (refine' my_sub ?k1 ?k2 ?k3 ?_ ?k4; (case k1 => k_asm); (case k2 => walk_at "my_mem"); (case k3 => first | assumption | exact At.cast (by assumption) (by omega) | exact At.last (by omega) (by omega)); (case k4 => with_unfolding_all rfl); k_whole)) | ((with_reducible show wpAny _ _ (call (Value.builtin "len") [Value.ref _]) _ _ _); k_dflt (refine' my_len ?k1 ?k2 ?k3 ?_; (case k1 => k_asm); (case k2 => walk_at "my_mem"); (case k3 => omega); k_whole); intro _) | ((with_reducible show wpAny _ _ (subscriptTail _ _ (Value.ref _) (Value.str _ _)) _ _ _); k_dflt (refine' kda_item (knd := PySem.strKind _ _) ?a ?b ?c (strKind_is _ _ _ _) ?d ?_; (case a => k_asm); (case b => walk_at "my_mem"); (case c => assumption); (case d => first | assumption | rfl); k_whole)) | walk1 | (dsimp only; walk1) | (leave1; walk_say "STEP leave1"; try dsimp only) | fail "no step")
    rename_i hA1 tkA1 tb9 hb9 thb9 bb9 tbb9 hA2 tkA2 u9 nh9 v9 F9 N9
    have F10 : Fr h₀ L _ (LM sp rows mm ca D1 mn tmn _) := Fr.lm F9 rfl rfl rfl rfl rfl rfl
    have g2 : Geo rows md mm sd st hp sk tr xl ((D1, W.listOf (List.toArray (Value.ref pX :: vsX)) 0) :: tl) := by ktr_rel
    have g3 : Off [sp] ((D1, W.listOf (List.toArray (Value.ref pX :: vsX)) 0) :: tl) := by walk_at "my_off"
    have sub : ∀ p ∈ tl, p ∈ ((D1, W.listOf (List.toArray (Value.ref pX :: vsX)) 0) :: tl) := fun p hp => .tail _ hp
    refine h _ _ ⟨cp, e, pq.spot, hb9, bb9, mn, tcp, te, tb9, thb9, tbb9, tmn, nk, nh9, nx, nr, kA, kc, 0, stk, hpv ++ [u9], xs, rws, vsA, cvs, (Value.ref pX :: vsX), (D1, W.listOf (List.toArray (Value.ref pX :: vsX)) 0) :: tl, ca, D1, ch, (pq :: dX), _⟩ F10 (News.b6 N9)
      ⟨by omega, ⟨nsA, hiA⟩, by dsimp only; omega, g2, hsp, g3, sub _ hca, hcv.mono sub, .head _, ?pvc, ?ndc, ?invc, ?l1c, ?l2c, ?l3c, ?l4c, ?l5c, ?l6c, ?l7c, fun x hx => ⟨sub _ (hx9 x hx).1, (hx9 x hx).2⟩⟩
    all_goals dsimp only
    case l7c => exact fun p hp => Nat.le_succ_of_le (l7 p (hsub p hp))
    case pvc => exact hdp2.mono sub
    case ndc => exact hnd9
    case invc => exact inv9.subH sub (by simp; omega)
    all_goals (try simp only [List.length_append, List.length_cons, List.length_nil] at hdl ⊢); (first | exact Nat.le_succ_of_le (by assumption) | exact l1_succ (by assumption) | exact l6_succ (by assumption) | exact Nat.succ_le_succ (by assumption) | omega | (constructor <;> omega))
end
end
-- F_st
section
local macro_rules | `(tactic| walk_at "none such") => `(tactic| skip)
local macro_rules | `(tactic| walk_at "none such") => `(tactic| skip)
local macro_rules | `(tactic| walk_at "none such") => `(tactic| skip)
section
variable {prog : Program} {w : World} {A A₀ : Around} {base : Heap} {outer : List Env} {h₀ : Heap} {L fa : Addr} {cdv : Value} {mean : ExcName → Option Value} {mg mb : Str → Option Value} {loose : List Str} {s : Shared} {Q : Flow → Shared → Prop}
  {kt ks : Nat → Tok} {sp sy rows md mm sd st hp sk tr xl ro ba : Addr} {t1 t2 t3 tb0 tmd tms ts1 : Tok} {nt i : Nat} {q : LSt} {ext : List (Addr × Obj)}
  (B : Below A₀ base outer h₀) (F : Fr h₀ L s.heap (LM sp rows mm q.ca q.pa q.mn q.tmn q.rest)) (X : (kK w.params).In h₀) (T : Top kQ loose mean mg mb h₀) (hA : A.frames = some (lenv L fa cdv :: outer)) (hH : A.handled = none) (hd : A.depth ≤ 310) (hu : A.units ≤ 3100)
  (N : News h₀ L s.heap ((sp, W.listOf q.sv.toArray q.kS) :: ((mm, instObj 534 md) :: (md, dictOf (mD w kt sy rows st xl ro ba t1 t2 t3 tb0 tmd tms q.cp q.tcp q.e q.te q.b q.tb) 18) :: (st, instObj 374 sd) :: (sd, dictOf (sD w ks sy hp sk tr ts1 q.hbv q.thb q.bbv q.tbb) 7) :: (sk, W.listOf (List.toArray q.stk) q.nk) :: (hp, W.listOf (List.toArray q.hpv) q.nh) :: (tr, W.listOf #[] nt) :: (xl, W.listOf (List.toArray q.xs) q.nx) :: (rows, W.listOf (List.toArray q.rws) q.nr) :: q.tl))) (O : LOK prog w sp rows md mm sd st hp sk tr xl ext i q)
include B F X T hA hH hd hu N O
theorem t_stands (h : ∀ h' tk, Fr h₀ L h' (LM sp rows mm q.ca q.pa q.mn q.tmn q.rest) → News h₀ L h' ((sp, W.listOf q.sv.toArray q.kS) :: ((mm, instObj 534 md) :: (md, dictOf (mD w kt sy rows st xl ro ba t1 t2 t3 tb0 tmd tms q.cp q.tcp q.e q.te q.b q.tb) 18) :: (st, instObj 374 sd) :: (sd, dictOf (sD w ks sy hp sk tr ts1 q.hbv q.thb q.bbv q.tbb) 7) :: (sk, W.listOf (List.toArray q.stk) q.nk) :: (hp, W.listOf (List.toArray q.hpv) q.nh) :: (tr, W.listOf #[] nt) :: (xl, W.listOf (List.toArray q.xs) q.nx) :: (rows, W.listOf (List.toArray q.rws) q.nr) :: q.tl)) → Q .next { s with heap := h', toks := tk }) :
    wpAny (model prog w) A (execs stb (lenv L fa cdv)) Q (fun _ _ => False) s := by
  obtain ⟨hi8, ⟨ns, hs⟩, hsz, geo, hsp, osp, hca, hcv, hpa, hpw, hnd, inv, l1, l2, l3, l4, l5, l6, l7, hx9⟩ := O
  obtain ⟨o1, o2, o3, o4, o5, o6, o7, o8, hT⟩ := id geo
  have s2 : @LT.lt Nat _ sp md := Nat.lt_trans hsp o1
  have s3 : @LT.lt Nat _ sp mm := Nat.lt_trans s2 o2
  have s4 : @LT.lt Nat _ sp sd := Nat.lt_trans s3 o3
  have s5 : @LT.lt Nat _ sp st := Nat.lt_trans s4 o4
  have s6 : @LT.lt Nat _ sp hp := Nat.lt_trans s5 o5
  have s7 : @LT.lt Nat _ sp sk := Nat.lt_trans s6 o6
  have s8 : @LT.lt Nat _ sp tr := Nat.lt_trans s7 o7
  have s9 : @LT.lt Nat _ sp xl := Nat.lt_trans s8 o8
  have k1 := inv.c.links
  have k2 := inv.p.links
  have k3 : q.ch.length ≤ 1000 := by omega
  have k4 : q.pts.length ≤ 1000 := by omega
  have k5 : q.stk.length ≤ 100000 := by omega
  have k6 : ∀ c ∈ q.ch, RowIn q.stk c := fun c hc => (inv.c.rows c hc).1
  have k7 : ∀ c ∈ q.ch, c.2.length ≤ 3 := fun c hc => (inv.c.rows c hc).2
  have k8 := inv.p.all
  show wpAny _ _ (execs _ (envOf _ _ _ _ _)) _ _ _
  delta stb stbG lname lnameG lscope lscopeG
  repeat' (first | (k_unfold; (try dsimp only)) | ((with_reducible show wpAny _ _ (call (Value.ref _) _) _ _ _); first | ((with_reducible show wpAny _ _ (call (Value.ref 562) _) _ _ _); (k_dflt (refine' c_stands ?B ?F ?X ?T ?hA ?hf ?hke ?hH ?hd ?hu ?G ?N ?x0 ?x1 ?x2 ?x3 ?x4 ?x5 ?x6 ?x7 ?x8 ?x9 ?x10 ?x11 ?_; (case N => tb_rel); (case B => k_asm); (case F => k_asm); (case X => k_asm); (case T => k_asm); (case hA => tb_start); (case hf => tb_start); (case hke => tb_start); (case hH => assumption); (case hd => ktr_room); (case hu => ktr_room); (case G => ktr_rel); (case x0 => walk_at "my_mem"); (case x1 => walk_at "my_cv"); (case x2 => walk_at "my_mem"); (case x3 => walk_at "my_pv"); (case x4 => assumption); (case x5 => assumption); (case x6 => assumption); (case x7 => assumption); (case x8 => assumption); (case x9 => assumption); (case x10 => assumption); (case x11 => assumption); k_whole); (try dsimp only); intro _ _ _ _; (try k_sweep)))) | ((with_reducible show wpAny _ _ (compareOp .NotEq (.ref _) (.ref _)) _ _ _); k_dflt (refine' my_ne_nil ?N ?a ?b ?u ?_ ?_; (case N => k_asm); (case a => walk_at "my_mem"); (case b => exact .head _); (case u => (show _ < _); k_units); k_whole) <;> intro _) | ((with_reducible show wpAny _ _ (binaryOp .Add (.ref _) (.ref _)) _ _ _); k_dflt (refine' my_cat1 ?F ?N ?a ?b ?z ?_; (case F => k_asm); (case N => k_asm); (case a => walk_at "my_mem"); (case b => walk_at "my_mem"); (case z => omega)); intro _ _ _ _ l1; (try k_lt l1); revert l1; intro _; (try k_sweep)) | ((with_reducible show wpAny _ _ (subscriptTail _ _ (Value.ref _) (Value.int _ _)) _ _ _); k_dflt (refine' my_sub ?k1 ?k2 ?k3 ?_ ?k4; (case k1 => k_asm); (case k2 => walk_at "my_mem"); (case k3 => first | assumption | exact At.cast (by assumption) (by omega) | exact At.last (by omega) (by omega)); (case k4 => with_unfolding_all rfl); k_whole)) | ((with_reducible show wpAny _ _ (call (Value.builtin "len") [Value.ref _]) _ _ _); k_dflt (refine' my_len ?k1 ?k2 ?k3 ?_; (case k1 => k_asm); (case k2 => walk_at "my_mem"); (case k3 => omega); k_whole); intro _) | walk1 | (dsimp only; walk1) | (leave1; walk_say "STEP leave1"; try dsimp only) | fail "no step")
  rename Fr _ _ _ _ => F9
  rename News _ _ _ _ => N9
  exact h _ _ F9 (News.mv9 N9)
end
end
-- F_take
section
theorem LOK.take {prog : Program} {w : World} {h₀ h : Heap} {L : Addr} {m : Str → Option Value} {kt ks : Nat → Tok} {sp sy rows md mm sd st hp sk tr xl ro ba : Addr} {t1 t2 t3 tb0 tmd tms ts1 : Tok} {nt i : Nat} {q : LSt} {ext : List (Addr × Obj)} (O : LOK prog w sp rows md mm sd st hp sk tr xl ext i q) {vs : List Value} {ns : List Int} {k : Nat} (F : Fr h₀ L h m) (h1 : m (Str.ofString "strip") = some (.ref sp)) (h2 : m (Str.ofString "rows_of") = some (.ref rows)) (h3 : m (Str.ofString "m") = some (.ref mm)) (h4 : m (Str.ofString "chain") = some (.ref q.ca)) (h5 : m (Str.ofString "points") = some (.ref q.pa)) (h6 : m (Str.ofString "mark_no") = some (.int q.mn q.tmn))
    (hs : IntsAre vs ns) (hz : vs.length ≤ q.sv.length) (N : News h₀ L h ((sp, W.listOf vs.toArray k) :: ((mm, instObj 534 md) :: (md, dictOf (mD w kt sy rows st xl ro ba t1 t2 t3 tb0 tmd tms q.cp q.tcp q.e q.te q.b q.tb) 18) :: (st, instObj 374 sd) :: (sd, dictOf (sD w ks sy hp sk tr ts1 q.hbv q.thb q.bbv q.tbb) 7) :: (sk, W.listOf (List.toArray q.stk) q.nk) :: (hp, W.listOf (List.toArray q.hpv) q.nh) :: (tr, W.listOf #[] nt) :: (xl, W.listOf (List.toArray q.xs) q.nx) :: (rows, W.listOf (List.toArray q.rws) q.nr) :: q.tl))) :
    ∃ q1 : LSt, q1.cvs = q.cvs ∧ q1.pvs = q.pvs ∧ Fr h₀ L h (LM sp rows mm q1.ca q1.pa q1.mn q1.tmn q1.rest) ∧ News h₀ L h ((sp, W.listOf q1.sv.toArray q1.kS) :: ((mm, instObj 534 md) :: (md, dictOf (mD w kt sy rows st xl ro ba t1 t2 t3 tb0 tmd tms q1.cp q1.tcp q1.e q1.te q1.b q1.tb) 18) :: (st, instObj 374 sd) :: (sd, dictOf (sD w ks sy hp sk tr ts1 q1.hbv q1.thb q1.bbv q1.tbb) 7) :: (sk, W.listOf (List.toArray q1.stk) q1.nk) :: (hp, W.listOf (List.toArray q1.hpv) q1.nh) :: (tr, W.listOf #[] nt) :: (xl, W.listOf (List.toArray q1.xs) q1.nx) :: (rows, W.listOf (List.toArray q1.rws) q1.nr) :: q1.tl)) ∧ LOK prog w sp rows md mm sd st hp sk tr xl ext i q1 :=
  ⟨{ q with sv := vs, kS := k, rest := m }, rfl, rfl, Fr.lm F h1 h2 h3 h4 h5 h6, N, O.sv hs hz⟩
theorem PtVals.notin {prog : Program} {w : World} {tl : List (Addr × Obj)} {x : Addr} {vs : List Value} {ps : List Pt} (h : PtVals prog w tl vs ps) (hn : ∀ o kvs, (x, o) ∈ tl → ¬ o.IsDictOf (strKind prog w) kvs) : Value.ref x ∉ vs := by
  induction h with
  | nil => simp
  | @cons pa vs p ps a _ ih =>
    intro hm
    rcases List.mem_cons.mp hm with e | hm
    · cases a with
      | mk a1 a2 _ _ _ =>
        injection e with e
        subst e
        exact hn _ _ a1 a2
    · exact ih hm
theorem LOK.enter {prog : Program} {w : World} {sp rows md mm sd st hp sk tr xl : Addr} {i : Nat} {q : LSt} {I : Addr} {it c0 c1 c2 c3 c4 c5 c6 c7 c8 c9 : Obj} (O : LOK prog w sp rows md mm sd st hp sk tr xl [] i q) (hd : ∀ es ep, it.data ≠ .dict es ep)
    (ho : ∀ p ∈ ((sp, c0) :: (mm, c1) :: (md, c2) :: (st, c3) :: (sd, c4) :: (sk, c5) :: (hp, c6) :: (tr, c7) :: (xl, c8) :: (rows, c9) :: q.tl), p.1 ≠ I) : LOK prog w sp rows md mm sd st hp sk tr xl [(I, it)] i { q with tl := (I, it) :: q.tl } := by
  have sub : ∀ p ∈ q.tl, p ∈ ((I, it) :: q.tl) := fun p hp => .tail _ hp
  simp only [List.mem_cons, forall_eq_or_imp] at ho
  obtain ⟨h0, h1, h2, h3, h4, h5, h6, h7, h8, h9, _⟩ := ho
  exact ⟨O.hi, O.hs, O.hsz, O.geo.cons ⟨Ne.symm h9, Ne.symm h2, Ne.symm h1, Ne.symm h4, Ne.symm h3, Ne.symm h6, Ne.symm h5, Ne.symm h7, Ne.symm h8⟩, O.hsp, O.osp.cons1 (Ne.symm h0), sub _ O.hca, O.hcv.mono sub, sub _ O.hpa, O.hpv.mono sub, O.nd, O.inv.sub sub, O.l1, O.l2, O.l3, O.l4, O.l5, O.l6, O.l7, fun p hp => by
    rw [List.mem_singleton.mp hp]
    exact ⟨.head _, hd⟩⟩
theorem LOK.leave {prog : Program} {w : World} {h₀ h : Heap} {L : Addr} {kt ks : Nat → Tok} {sp sy rows md mm sd st hp sk tr xl ro ba : Addr} {t1 t2 t3 tb0 tmd tms ts1 : Tok} {nt i : Nat} {q : LSt} {I : Addr} {it : Obj} (O : LOK prog w sp rows md mm sd st hp sk tr xl [(I, it)] i q) (hd : ∀ l n, it.data ≠ .seq l n) (N : News h₀ L h ((sp, W.listOf q.sv.toArray q.kS) :: ((mm, instObj 534 md) :: (md, dictOf (mD w kt sy rows st xl ro ba t1 t2 t3 tb0 tmd tms q.cp q.tcp q.e q.te q.b q.tb) 18) :: (st, instObj 374 sd) :: (sd, dictOf (sD w ks sy hp sk tr ts1 q.hbv q.thb q.bbv q.tbb) 7) :: (sk, W.listOf (List.toArray q.stk) q.nk) :: (hp, W.listOf (List.toArray q.hpv) q.nh) :: (tr, W.listOf #[] nt) :: (xl, W.listOf (List.toArray q.xs) q.nx) :: (rows, W.listOf (List.toArray q.rws) q.nr) :: q.tl))) :
    LOK prog w sp rows md mm sd st hp sk tr xl [] i { q with tl := q.tl.filter fun p => decide (p.1 ≠ I) } ∧ News h₀ L h ((I, it) :: ((sp, W.listOf q.sv.toArray q.kS) :: ((mm, instObj 534 md) :: (md, dictOf (mD w kt sy rows st xl ro ba t1 t2 t3 tb0 tmd tms q.cp q.tcp q.e q.te q.b q.tb) 18) :: (st, instObj 374 sd) :: (sd, dictOf (sD w ks sy hp sk tr ts1 q.hbv q.thb q.bbv q.tbb) 7) :: (sk, W.listOf (List.toArray q.stk) q.nk) :: (hp, W.listOf (List.toArray q.hpv) q.nh) :: (tr, W.listOf #[] nt) :: (xl, W.listOf (List.toArray q.xs) q.nx) :: (rows, W.listOf (List.toArray q.rws) q.nr) :: (q.tl.filter fun p => decide (p.1 ≠ I))))) ∧ ∀ p ∈ ((sp, W.listOf q.sv.toArray q.kS) :: ((mm, instObj 534 md) :: (md, dictOf (mD w kt sy rows st xl ro ba t1 t2 t3 tb0 tmd tms q.cp q.tcp q.e q.te q.b q.tb) 18) :: (st, instObj 374 sd) :: (sd, dictOf (sD w ks sy hp sk tr ts1 q.hbv q.thb q.bbv q.tbb) 7) :: (sk, W.listOf (List.toArray q.stk) q.nk) :: (hp, W.listOf (List.toArray q.hpv) q.nh) :: (tr, W.listOf #[] nt) :: (xl, W.listOf (List.toArray q.xs) q.nx) :: (rows, W.listOf (List.toArray q.rws) q.nr) :: (q.tl.filter fun p => decide (p.1 ≠ I)))), p.1 ≠ I := by
  obtain ⟨hI, hdd⟩ := O.hx _ (List.mem_singleton.mpr rfl)
  have fn : ∀ o, (I, o) ∈ q.tl → o = it := fun o ho => by
    have e1 := (N _ (.tail _ (mem_tl9 hI))).1
    have e2 := (N _ (.tail _ (mem_tl9 ho))).1
    simp only [e1, Option.some.injEq] at e2
    exact e2.symm
  have kp : Keeps q.tl (q.tl.filter fun p => decide (p.1 ≠ I)) := fun x o ho hs => List.mem_filter.mpr ⟨ho, decide_eq_true fun e => by
    obtain ⟨l, n, hs⟩ := hs
    have e' : x = I := e
    subst e'
    exact hd l n (fn o ho ▸ hs)⟩
  have so : ∀ {l : List Addr}, Off l q.tl → Off l (q.tl.filter fun p => decide (p.1 ≠ I)) := fun h p hp => h p (List.mem_filter.mp hp).1
  have hnn : Value.ref I ∉ q.pvs := O.hpv.notin fun o kvs ho ⟨es, ep, _, h9, _⟩ => hdd es ep (fn o ho ▸ h9)
  have h1 := O.geo.off _ hI
  have h2 := O.osp _ hI
  simp only [List.mem_cons, List.not_mem_nil, or_false, forall_eq_or_imp, forall_eq] at h1 h2
  obtain ⟨g1, g2, g3, g4, g5, g6, g7, g8, g9⟩ := h1
  refine ⟨⟨O.hi, O.hs, O.hsz, { O.geo with off := so O.geo.off }, O.hsp, so O.osp, kp _ _ O.hca ⟨_, _, rfl⟩, O.hcv.keep kp, kp _ _ O.hpa ⟨_, _, rfl⟩, O.hpv.keep kp (fun a o ha hne => List.mem_filter.mpr ⟨ha, decide_eq_true hne⟩) hnn, O.nd, O.inv.keep kp, O.l1, O.l2, O.l3, O.l4, O.l5, O.l6, O.l7, fun p hp => nomatch hp⟩, News.filtI [_, _, _, _, _, _, _, _, _, _] N hI, ?_⟩
  exact neCons (Ne.symm h2) (neCons (Ne.symm g3) (neCons (Ne.symm g2) (neCons (Ne.symm g5) (neCons (Ne.symm g4) (neCons (Ne.symm g7) (neCons (Ne.symm g6) (neCons (Ne.symm g8) (neCons (Ne.symm g9) (neCons (Ne.symm g1) neFilt)))))))))
end
-- F_turn
section
local macro_rules | `(tactic| walk_at "execs cons") => `(tactic| ((with_reducible show wpAny _ _ (execs br1 _) _ _ _); refine Hold.out ?_))
local macro_rules | `(tactic| walk_at "execs cons") => `(tactic| ((with_reducible show wpAny _ _ (execs br2 _) _ _ _); refine Hold.out ?_))
local macro_rules | `(tactic| walk_at "execs cons") => `(tactic| ((with_reducible show wpAny _ _ (execs br3 _) _ _ _); refine Hold.out ?_))
local macro_rules | `(tactic| walk_at "execs cons") => `(tactic| ((with_reducible show wpAny _ _ (execs br4 _) _ _ _); refine Hold.out ?_))
local macro_rules | `(tactic| walk_at "execs cons") => `(tactic| ((with_reducible show wpAny _ _ (execs br5 _) _ _ _); refine Hold.out ?_))
local macro_rules | `(tactic| walk_at "execs cons") => `(tactic| ((with_reducible show wpAny _ _ (execs br6 _) _ _ _); refine Hold.out ?_))
local macro_rules | `(tactic| walk_at "execs cons") => `(tactic| ((with_reducible show wpAny _ _ (execs stb _) _ _ _); refine Hold.out ?_))
section
variable {prog : Program} {w : World} {A A₀ : Around} {base : Heap} {outer : List Env} {h₀ : Heap} {L fa : Addr} {cdv : Value} {mean : ExcName → Option Value} {mg mb : Str → Option Value} {loose : List Str} {s : Shared} {Q : Flow → Shared → Prop}
  {kt ks : Nat → Tok} {sp sy rows md mm sd st hp sk tr xl ro ba : Addr} {t1 t2 t3 tb0 tmd tms ts1 : Tok} {nt i : Nat} {q : LSt} {ext : List (Addr × Obj)}
  (B : Below A₀ base outer h₀) (F : Fr h₀ L s.heap (LM sp rows mm q.ca q.pa q.mn q.tmn q.rest)) (X : (kK w.params).In h₀) (T : Top kQ loose mean mg mb h₀) (hA : A.frames = some (lenv L fa cdv :: outer)) (hH : A.handled = none) (hd : A.depth ≤ 310) (hu : A.units ≤ 3100)
  (N : News h₀ L s.heap ((sp, W.listOf q.sv.toArray q.kS) :: ((mm, instObj 534 md) :: (md, dictOf (mD w kt sy rows st xl ro ba t1 t2 t3 tb0 tmd tms q.cp q.tcp q.e q.te q.b q.tb) 18) :: (st, instObj 374 sd) :: (sd, dictOf (sD w ks sy hp sk tr ts1 q.hbv q.thb q.bbv q.tbb) 7) :: (sk, W.listOf (List.toArray q.stk) q.nk) :: (hp, W.listOf (List.toArray q.hpv) q.nh) :: (tr, W.listOf #[] nt) :: (xl, W.listOf (List.toArray q.xs) q.nx) :: (rows, W.listOf (List.toArray q.rws) q.nr) :: q.tl))) (O : LOK prog w sp rows md mm sd st hp sk tr xl ext i q) (hi9 : i ≤ 23)
include B F X T hA hH hd hu N O hi9
theorem t_turn (h : ∀ h' tk q', Fr h₀ L h' (LM sp rows mm q'.ca q'.pa q'.mn q'.tmn q'.rest) → News h₀ L h' ((sp, W.listOf q'.sv.toArray q'.kS) :: ((mm, instObj 534 md) :: (md, dictOf (mD w kt sy rows st xl ro ba t1 t2 t3 tb0 tmd tms q'.cp q'.tcp q'.e q'.te q'.b q'.tb) 18) :: (st, instObj 374 sd) :: (sd, dictOf (sD w ks sy hp sk tr ts1 q'.hbv q'.thb q'.bbv q'.tbb) 7) :: (sk, W.listOf (List.toArray q'.stk) q'.nk) :: (hp, W.listOf (List.toArray q'.hpv) q'.nh) :: (tr, W.listOf #[] nt) :: (xl, W.listOf (List.toArray q'.xs) q'.nx) :: (rows, W.listOf (List.toArray q'.rws) q'.nr) :: q'.tl)) → LOK prog w sp rows md mm sd st hp sk tr xl ext (i + 1) q' → Q .next { s with heap := h', toks := tk }) :
    wpAny (model prog w) A (execs lbody (lenv L fa cdv)) Q (fun _ _ => False) s := by
  have hca := O.hca
  have hpa := O.hpa
  obtain ⟨ns, hs⟩ := O.hs
  have hsz := O.hsz
  have geo := O.geo
  have hsp := O.hsp
  have osp := O.osp
  obtain ⟨o1, o2, o3, o4, o5, o6, o7, o8, hT⟩ := id geo
  have s2 : @LT.lt Nat _ sp md := Nat.lt_trans hsp o1
  have s3 : @LT.lt Nat _ sp mm := Nat.lt_trans s2 o2
  have s4 : @LT.lt Nat _ sp sd := Nat.lt_trans s3 o3
  have s5 : @LT.lt Nat _ sp st := Nat.lt_trans s4 o4
  have s6 : @LT.lt Nat _ sp hp := Nat.lt_trans s5 o5
  have s7 : @LT.lt Nat _ sp sk := Nat.lt_trans s6 o6
  have s8 : @LT.lt Nat _ sp tr := Nat.lt_trans s7 o7
  have s9 : @LT.lt Nat _ sp xl := Nat.lt_trans s8 o8
  show wpAny _ _ (execs _ (envOf _ _ _ _ _)) _ _ _
  delta lbody lbodyG lname lnameG lscope lscopeG
  repeat' (first | (k_unfold; (try dsimp only)) | ((with_reducible show wpAny _ _ (call (Value.ref _) _) _ _ _); first | ((with_reducible show wpAny _ _ (call (Value.ref 552) _) _ _ _); (k_dflt (refine' c_choose ?B ?F ?X ?T ?hA ?hf ?hke ?hH ?hd ?hu ?N ?x0 ?x1 ?x2 ?x3 ?x4 ?_; (case N => first | assumption | exact News.sw (by assumption) | exact News.mv9 (by assumption) | exact News.mv9 (News.tail9' (by assumption))); (case B => k_asm); (case F => k_asm); (case X => k_asm); (case T => k_asm); (case hA => tb_start); (case hf => tb_start); (case hke => tb_start); (case hH => assumption); (case hd => ktr_room); (case hu => ktr_room); (case x0 => walk_at "my_off"); (case x1 => assumption); (case x2 => omega); (case x3 => omega); (case x4 => omega); k_whole); (try dsimp only); intro _ _ _ _ _ _ _ _ _ _ _ _ _; (try k_sweep)))) | ((with_reducible show wpAny _ _ (compareOp .NotEq (.ref _) (.ref _)) _ _ _); k_dflt (refine' my_ne_nil ?N ?a ?b ?u ?_ ?_; (case N => k_asm); (case a => walk_at "my_mem"); (case b => exact .head _); (case u => (show _ < _); k_units); k_whole) <;> intro _) | ((with_reducible show wpAny _ _ (binaryOp .Add (.ref _) (.ref _)) _ _ _); k_dflt (refine' my_cat1 ?F ?N ?a ?b ?z ?_; (case F => k_asm); (case N => k_asm); (case a => walk_at "my_mem"); (case b => walk_at "my_mem"); (case z => omega)); intro _ _ _ _ l1; (try k_lt l1); revert l1; intro _; (try k_sweep)) | ((with_reducible show wpAny _ _ (subscriptTail _ _ (Value.ref _) (Value.int _ _)) _ _ _); k_dflt (refine' my_sub ?k1 ?k2 ?k3 ?_ ?k4; (case k1 => k_asm); (case k2 => walk_at "my_mem"); (case k3 => first | assumption | exact At.cast (by assumption) (by omega) | exact At.last (by omega) (by omega)); (case k4 => with_unfolding_all rfl); k_whole)) | ((with_reducible show wpAny _ _ (call (Value.builtin "len") [Value.ref _]) _ _ _); k_dflt (refine' my_len ?k1 ?k2 ?k3 ?_; (case k1 => k_asm); (case k2 => walk_at "my_mem"); (case k3 => omega); k_whole); intro _) | walk1 | (dsimp only; walk1) | (leave1; walk_say "STEP leave1"; try dsimp only) | fail "no step")
  all_goals try (exfalso; omega)
  all_goals
    refine Hold.mk ?_
    rename Fr _ _ _ _ => F1
    rename News _ _ _ _ => N1
    rename IntsAre _ _ => hi1
    rename List.length _ ≤ List.length _ => hz1
    obtain ⟨q1, e1, e2, F2, N2, O2⟩ := O.take F1 rfl rfl rfl rfl rfl rfl hi1 hz1 (by first | exact N1 | exact News.tail9' N1 | exact News.tail9' (News.tail9' N1) | exact News.tail9' (News.tail9' (News.tail9' N1)))
    first
    | ((with_reducible show wpAny _ _ (execs br1 _) _ _ _); refine t_b1 B F2 X T hA hH hd hu N2 O2 hi9 (fun h3 tk3 q2 F3 N3 O3 => ?_); (try dsimp only); k_steps; refine Hold.mk ?_; refine t_stands B F3 X T hA hH hd hu N3 O3 (fun h4 tk4 F4 N4 => ?_); exact h _ _ q2 F4 N4 O3)
    | ((with_reducible show wpAny _ _ (execs br2 _) _ _ _); refine t_b2 B F2 X T hA hH hd hu N2 O2 hi9 (by rw [e1]; assumption) (fun h3 tk3 q2 F3 N3 O3 => ?_); (try dsimp only); k_steps; refine Hold.mk ?_; refine t_stands B F3 X T hA hH hd hu N3 O3 (fun h4 tk4 F4 N4 => ?_); exact h _ _ q2 F4 N4 O3)
    | ((with_reducible show wpAny _ _ (execs br3 _) _ _ _); refine t_b3 B F2 X T hA hH hd hu N2 O2 hi9 (fun h3 tk3 q2 F3 N3 O3 => ?_); (try dsimp only); k_steps; refine Hold.mk ?_; refine t_stands B F3 X T hA hH hd hu N3 O3 (fun h4 tk4 F4 N4 => ?_); exact h _ _ q2 F4 N4 O3)
    | ((with_reducible show wpAny _ _ (execs br4 _) _ _ _); refine t_b4 B F2 X T hA hH hd hu N2 O2 hi9 (by rw [e2]; assumption) (fun h3 tk3 q2 F3 N3 O3 => ?_); (try dsimp only); k_steps; refine Hold.mk ?_; refine t_stands B F3 X T hA hH hd hu N3 O3 (fun h4 tk4 F4 N4 => ?_); exact h _ _ q2 F4 N4 O3)
    | ((with_reducible show wpAny _ _ (execs br5 _) _ _ _); refine t_b5 B F2 X T hA hH hd hu N2 O2 hi9 (by rw [e2]; assumption) (fun h3 tk3 q2 F3 N3 O3 => ?_); (try dsimp only); k_steps; refine Hold.mk ?_; refine t_stands B F3 X T hA hH hd hu N3 O3 (fun h4 tk4 F4 N4 => ?_); exact h _ _ q2 F4 N4 O3)
    | ((with_reducible show wpAny _ _ (execs br6 _) _ _ _); refine t_b6 B F2 X T hA hH hd hu N2 O2 hi9 (fun h3 tk3 q2 F3 N3 O3 => ?_); (try dsimp only); k_steps; refine Hold.mk ?_; refine t_stands B F3 X T hA hH hd hu N3 O3 (fun h4 tk4 F4 N4 => ?_); exact h _ _ q2 F4 N4 O3)
    | ((with_reducible show wpAny _ _ (execs stb _) _ _ _); refine t_stands B F2 X T hA hH hd hu N2 (O2.succ hi9) (fun h4 tk4 F4 N4 => ?_); exact h _ _ q1 F4 N4 (O2.succ hi9))
end
end
-- F_loop
section
noncomputable abbrev lawbG {q : Program} {loose : List Str} {XP : (Str → Option Value) → Heap → Prop} {YP : World → Heap → Prop} {r : RowW} {kwd : List (Str × PySem.Expr)} {run : Value → List Value → Sem Value} {G : Prop} {nm : Str} {ps : Arguments} {s1 s2 s3 s4 s5 s6 d1 st1 ret : Stmt} {tg itr c1 c2 c3 c4 c5 c6 : PySem.Expr} {x1 x2 x3 x4 x5 x6 lo : List Stmt} {lp p1 p2 p3 p4 p5 p6 pos : Pos} {sc : Scope} (_ : WalkO q loose XP YP r ⟨nm, ps, [s1, s2, s3, s4, s5, s6, .For tg itr [d1, .If c1 x1 [.If c2 x2 [.If c3 x3 [.If c4 x4 [.If c5 x5 [.If c6 x6 [] p6] p5] p4] p3] p2] p1, st1] lo lp, ret], sc, pos⟩ kwd run → G) : List Stmt := [s1, s2, s3, s4, s5, s6, .For tg itr [d1, .If c1 x1 [.If c2 x2 [.If c3 x3 [.If c4 x4 [.If c5 x5 [.If c6 x6 [] p6] p5] p4] p3] p2] p1, st1] lo lp, ret]
noncomputable abbrev lawb : List Stmt := lawbG kHd
noncomputable abbrev lforbG {q : Program} {loose : List Str} {XP : (Str → Option Value) → Heap → Prop} {YP : World → Heap → Prop} {r : RowW} {kwd : List (Str × PySem.Expr)} {run : Value → List Value → Sem Value} {G : Prop} {nm : Str} {ps : Arguments} {s1 s2 s3 s4 s5 s6 d1 st1 ret : Stmt} {tg itr c1 c2 c3 c4 c5 c6 : PySem.Expr} {x1 x2 x3 x4 x5 x6 lo : List Stmt} {lp p1 p2 p3 p4 p5 p6 pos : Pos} {sc : Scope} (_ : WalkO q loose XP YP r ⟨nm, ps, [s1, s2, s3, s4, s5, s6, .For tg itr [d1, .If c1 x1 [.If c2 x2 [.If c3 x3 [.If c4 x4 [.If c5 x5 [.If c6 x6 [] p6] p5] p4] p3] p2] p1, st1] lo lp, ret], sc, pos⟩ kwd run → G) : List Stmt := [.For tg itr [d1, .If c1 x1 [.If c2 x2 [.If c3 x3 [.If c4 x4 [.If c5 x5 [.If c6 x6 [] p6] p5] p4] p3] p2] p1, st1] lo lp, ret]
noncomputable abbrev lforb : List Stmt := lforbG kHd
section
variable {σ : Type} {prog : Program} {w : World} {A : Around} {E : Value → Shared → Prop} {s : Shared} {env : Env} {h₀ : Heap} {x : Str} {body : List Stmt} {Q : Flow → Shared → Prop}
theorem rangeS2 {r : Addr} {a₀ b₀ : Int} {t₀ u₀ v₀ : Tok} {n : Nat} {m₀ : Str → Option Value} {news : List (Addr × Obj)} (M : σ → Str → Option Value) (R : σ → List (Addr × Obj)) (P : Nat → σ → Prop) (st₀ : σ)
    (hh : A.handled = none) (hr : IsRange s.heap r a₀ b₀ 1 t₀ u₀ v₀) (hsmall : Builtin.Range.small a₀ b₀ 1 = true) (hn : Builtin.Range.rangeSize a₀ b₀ 1 = (n : Int)) (F : Fr h₀ env.locals s.heap m₀) (N : News h₀ env.locals s.heap news)
    (hm : ∀ y, y ≠ x → m₀ y = M st₀ y) (hR : news = R st₀) (hP : P 0 st₀)
    (turn : ∀ (i : Nat) st t h tk I it, i < n → (∀ l n, it.data ≠ .seq l n) → (∀ es ep, it.data ≠ .dict es ep) → P i st → (∀ p ∈ R st, p.1 ≠ I) → (∀ p ∈ news, p.1 < I) → Fr h₀ env.locals h (fun y => if y = x then some (.int (a₀ + (i : Int)) t) else M st y) → News h₀ env.locals h ((I, it) :: R st) →
      wpAny (model prog w) A (execs body env) (LpPost h₀ env.locals { s with heap := h, toks := tk } x I it M R (P (i + 1)) Q) E { s with heap := h, toks := tk })
    (done : ∀ st u h tk, P n st → Fr h₀ env.locals h (fun y => if y = x then u else M st y) → News h₀ env.locals h (R st) → Q .next { s with heap := h, toks := tk }) :
    wpAny (model prog w) A (pyIter (.ref r)) (fun it s₂ => LoopAtV prog w A h₀ env x body Q E it s₂) E s := by
  refine iter_rangeUnr hh hr hsmall hn F N fun I hI => ?_
  have key : ∀ (k i : Nat) (st : σ) (m : Str → Option Value), i + k = n → P i st → (∀ y, y ≠ x → m y = M st y) → (∀ p ∈ R st, p.1 ≠ I) → RangeRest prog w A E h₀ env x body Q s I a₀ n k i m (R st) := by
    intro k
    induction k with
    | zero =>
      intro i st m hi hp hm _
      refine RangeRest.zero fun h tk F N => done st (m x) h tk (by have : i = n := by omega
                                                                   exact this ▸ hp) ?_ N
      rw [← self_map hm]; exact F
    | succ k ih =>
      intro i st m hi hp hm ho
      refine RangeRest.succ fun t h tk F N => ?_
      rw [map_none' hm] at F
      refine wpAny_mono (turn i st t h tk I _ (by omega) (fun _ _ h => by unfold itR at h; exact nomatch h) (fun _ _ h => by unfold itR at h; exact nomatch h) hp ho hI F N) (fun f s₂ h₂ => lpPost_unr (fun st' m' hp' hm' ho' => ih (i + 1) st' m' (by omega) hp' hm' ho') h₂) fun _ _ e => e
  rw [hR]
  exact key n 0 st₀ m₀ (by omega) hP hm (fun p hp => Nat.ne_of_lt (hI p (hR ▸ hp)))
end
local macro_rules | `(tactic| walk_at "pyIter ref") => `(tactic| (refine Hold.out ?_))
section
variable {prog : Program} {w : World} {A A₀ : Around} {base : Heap} {outer : List Env} {h₀ : Heap} {L fa : Addr} {cdv : Value} {mean : ExcName → Option Value} {mg mb : Str → Option Value} {loose : List Str} {s : Shared} {Q : Flow → Shared → Prop}
  {kt ks : Nat → Tok} {sp sy rows md mm sd st hp sk tr xl ro ba : Addr} {t1 t2 t3 tb0 tmd tms ts1 : Tok} {nt i : Nat} {q : LSt} {ext : List (Addr × Obj)}
  (B : Below A₀ base outer h₀) (F : Fr h₀ L s.heap (LM sp rows mm q.ca q.pa q.mn q.tmn q.rest)) (X : (kK w.params).In h₀) (T : Top kQ loose mean mg mb h₀) (hA : A.frames = some (lenv L fa cdv :: outer)) (hH : A.handled = none) (hd : A.depth ≤ 310) (hu : A.units ≤ 3100)
  (N : News h₀ L s.heap ((sp, W.listOf q.sv.toArray q.kS) :: ((mm, instObj 534 md) :: (md, dictOf (mD w kt sy rows st xl ro ba t1 t2 t3 tb0 tmd tms q.cp q.tcp q.e q.te q.b q.tb) 18) :: (st, instObj 374 sd) :: (sd, dictOf (sD w ks sy hp sk tr ts1 q.hbv q.thb q.bbv q.tbb) 7) :: (sk, W.listOf (List.toArray q.stk) q.nk) :: (hp, W.listOf (List.toArray q.hpv) q.nh) :: (tr, W.listOf #[] nt) :: (xl, W.listOf (List.toArray q.xs) q.nx) :: (rows, W.listOf (List.toArray q.rws) q.nr) :: q.tl))) (O : LOK prog w sp rows md mm sd st hp sk tr xl ext i q)
include B F X T hA hH hd hu N O
theorem t_loop (he : ext = []) (hi0 : i = 0) (h : ∀ h' tk m' news, Fr h₀ L h' m' → News h₀ L h' news → Q (.ret (.bool true)) { s with heap := h', toks := tk }) :
    wpAny (model prog w) A (execs lforb (lenv L fa cdv)) Q (fun _ _ => False) s := by
  subst he; subst hi0
  obtain ⟨ns, hs⟩ := O.hs
  have hsz := O.hsz
  have geo := O.geo
  have hsp := O.hsp
  have osp := O.osp
  obtain ⟨o1, o2, o3, o4, o5, o6, o7, o8, hT⟩ := id geo
  have s2 : @LT.lt Nat _ sp md := Nat.lt_trans hsp o1
  have s3 : @LT.lt Nat _ sp mm := Nat.lt_trans s2 o2
  have s4 : @LT.lt Nat _ sp sd := Nat.lt_trans s3 o3
  have s5 : @LT.lt Nat _ sp st := Nat.lt_trans s4 o4
  have s6 : @LT.lt Nat _ sp hp := Nat.lt_trans s5 o5
  have s7 : @LT.lt Nat _ sp sk := Nat.lt_trans s6 o6
  have s8 : @LT.lt Nat _ sp tr := Nat.lt_trans s7 o7
  have s9 : @LT.lt Nat _ sp xl := Nat.lt_trans s8 o8
  show wpAny _ _ (execs _ (envOf _ _ _ _ _)) _ _ _
  delta lforb lforbG lname lnameG lscope lscopeG
  repeat' (first | (k_unfold; (try dsimp only)) | ((with_reducible show wpAny _ _ (call (Value.ref _) _) _ _ _); first | ((with_reducible show wpAny _ _ (call (Value.ref 552) _) _ _ _); (k_dflt (refine' c_choose ?B ?F ?X ?T ?hA ?hf ?hke ?hH ?hd ?hu ?N ?x0 ?x1 ?x2 ?x3 ?x4 ?_; (case N => first | assumption | exact News.sw (by assumption) | exact News.mv9 (by assumption) | exact News.mv9 (News.tail9' (by assumption))); (case B => k_asm); (case F => k_asm); (case X => k_asm); (case T => k_asm); (case hA => tb_start); (case hf => tb_start); (case hke => tb_start); (case hH => assumption); (case hd => ktr_room); (case hu => ktr_room); (case x0 => walk_at "my_off"); (case x1 => assumption); (case x2 => omega); (case x3 => omega); (case x4 => omega); k_whole); (try dsimp only); intro _ _ _ _ _ _ _ _ _ _ _ _ _; (try k_sweep)))) | ((with_reducible show wpAny _ _ (compareOp .NotEq (.ref _) (.ref _)) _ _ _); k_dflt (refine' my_ne_nil ?N ?a ?b ?u ?_ ?_; (case N => k_asm); (case a => walk_at "my_mem"); (case b => exact .head _); (case u => (show _ < _); k_units); k_whole) <;> intro _) | ((with_reducible show wpAny _ _ (binaryOp .Add (.ref _) (.ref _)) _ _ _); k_dflt (refine' my_cat1 ?F ?N ?a ?b ?z ?_; (case F => k_asm); (case N => k_asm); (case a => walk_at "my_mem"); (case b => walk_at "my_mem"); (case z => omega)); intro _ _ _ _ l1; (try k_lt l1); revert l1; intro _; (try k_sweep)) | ((with_reducible show wpAny _ _ (subscriptTail _ _ (Value.ref _) (Value.int _ _)) _ _ _); k_dflt (refine' my_sub ?k1 ?k2 ?k3 ?_ ?k4; (case k1 => k_asm); (case k2 => walk_at "my_mem"); (case k3 => first | assumption | exact At.cast (by assumption) (by omega) | exact At.last (by omega) (by omega)); (case k4 => with_unfolding_all rfl); k_whole)) | ((with_reducible show wpAny _ _ (call (Value.builtin "len") [Value.ref _]) _ _ _); k_dflt (refine' my_len ?k1 ?k2 ?k3 ?_; (case k1 => k_asm); (case k2 => walk_at "my_mem"); (case k3 => omega); k_whole); intro _) | walk1 | (dsimp only; walk1) | (leave1; walk_say "STEP leave1"; try dsimp only) | fail "no step")
  refine Hold.mk ?_
  rename_i gG tkG vsA nsA kA z tz hiA hzA hz0 hz1 gH tkC tR uR vR R9 F9 N9 a9
  obtain ⟨q1, e1, e2, F2, N2, O2⟩ := O.take F9 rfl rfl rfl rfl rfl rfl hiA hzA N9
  refine' rangeS2 (σ := LSt) (n := z.toNat) (fun q => LM sp rows mm q.ca q.pa q.mn q.tmn q.rest) (fun q => ((sp, W.listOf q.sv.toArray q.kS) :: ((mm, instObj 534 md) :: (md, dictOf (mD w kt sy rows st xl ro ba t1 t2 t3 tb0 tmd tms q.cp q.tcp q.e q.te q.b q.tb) 18) :: (st, instObj 374 sd) :: (sd, dictOf (sD w ks sy hp sk tr ts1 q.hbv q.thb q.bbv q.tbb) 7) :: (sk, W.listOf (List.toArray q.stk) q.nk) :: (hp, W.listOf (List.toArray q.hpv) q.nh) :: (tr, W.listOf #[] nt) :: (xl, W.listOf (List.toArray q.xs) q.nx) :: (rows, W.listOf (List.toArray q.rws) q.nr) :: q.tl))) (fun i q => LOK prog w sp rows md mm sd st hp sk tr xl [] i q) q1 hH R9 (small1 hz0 (by omega)) (size1 hz0) F2 N2 (fun _ _ => rfl) rfl O2 ?turn ?done
  case turn =>
    intro j qj t h' tk' I it hj hd1 hd2 P ho hI F' N'
    obtain ⟨nj, hsj⟩ := P.hs
    have O3 := P.enter (it := it) hd2 ho
    obtain ⟨q5, e5, e6, F5, N5, O5⟩ := O3.take F' rfl rfl rfl rfl rfl rfl hsj (Nat.le_refl _) (News.z1 N')
    refine t_turn B F5 X T hA hH hd hu N5 O5 (by omega) (fun h4 tk4 q4 F4 N4 O4 => ?_)
    obtain ⟨O6, N6, ho6⟩ := O4.leave hd1 N4
    exact LpEnd.intro { q4 with tl := q4.tl.filter fun p => decide (p.1 ≠ I) } F4 (fun y hy => rfl) N6 ho6 O6
  case done =>
    intro qj u h' tk' P F' N'
    clear N9 F9 F2 N2
    repeat' (first | (k_unfold; (try dsimp only)) | ((with_reducible show wpAny _ _ (call (Value.ref _) _) _ _ _); first | ((with_reducible show wpAny _ _ (call (Value.ref 552) _) _ _ _); (k_dflt (refine' c_choose ?B ?F ?X ?T ?hA ?hf ?hke ?hH ?hd ?hu ?N ?x0 ?x1 ?x2 ?x3 ?x4 ?_; (case N => first | assumption | exact News.sw (by assumption) | exact News.mv9 (by assumption) | exact News.mv9 (News.tail9' (by assumption))); (case B => k_asm); (case F => k_asm); (case X => k_asm); (case T => k_asm); (case hA => tb_start); (case hf => tb_start); (case hke => tb_start); (case hH => assumption); (case hd => ktr_room); (case hu => ktr_room); (case x0 => walk_at "my_off"); (case x1 => assumption); (case x2 => omega); (case x3 => omega); (case x4 => omega); k_whole); (try dsimp only); intro _ _ _ _ _ _ _ _ _ _ _ _ _; (try k_sweep)))) | ((with_reducible show wpAny _ _ (compareOp .NotEq (.ref _) (.ref _)) _ _ _); k_dflt (refine' my_ne_nil ?N ?a ?b ?u ?_ ?_; (case N => k_asm); (case a => walk_at "my_mem"); (case b => exact .head _); (case u => (show _ < _); k_units); k_whole) <;> intro _) | ((with_reducible show wpAny _ _ (binaryOp .Add (.ref _) (.ref _)) _ _ _); k_dflt (refine' my_cat1 ?F ?N ?a ?b ?z ?_; (case F => k_asm); (case N => k_asm); (case a => walk_at "my_mem"); (case b => walk_at "my_mem"); (case z => omega)); intro _ _ _ _ l1; (try k_lt l1); revert l1; intro _; (try k_sweep)) | ((with_reducible show wpAny _ _ (subscriptTail _ _ (Value.ref _) (Value.int _ _)) _ _ _); k_dflt (refine' my_sub ?k1 ?k2 ?k3 ?_ ?k4; (case k1 => k_asm); (case k2 => walk_at "my_mem"); (case k3 => first | assumption | exact At.cast (by assumption) (by omega) | exact At.last (by omega) (by omega)); (case k4 => with_unfolding_all rfl); k_whole)) | ((with_reducible show wpAny _ _ (call (Value.builtin "len") [Value.ref _]) _ _ _); k_dflt (refine' my_len ?k1 ?k2 ?k3 ?_; (case k1 => k_asm); (case k2 => walk_at "my_mem"); (case k3 => omega); k_whole); intro _) | walk1 | (dsimp only; walk1) | (leave1; walk_say "STEP leave1"; try dsimp only) | fail "no step")
    exact h _ _ _ _ F' N'
end
end
-- F_law
section
local macro_rules | `(tactic| walk_at "none such") => `(tactic| skip)
theorem News.init {h₀ h : Heap} {L : Addr} {pa ca ba ro xl tr sk hp st sd mm md rows s : Addr × Obj} {tl : List (Addr × Obj)} (N : News h₀ L h (pa :: ca :: ba :: ro :: xl :: tr :: sk :: hp :: st :: sd :: mm :: md :: rows :: s :: tl)) : News h₀ L h (s :: mm :: md :: st :: sd :: sk :: hp :: tr :: xl :: rows :: pa :: ca :: tl) := News.pick [pa, ca, ba, ro, xl, tr, sk, hp, st, sd, mm, md, rows, s] [s, mm, md, st, sd, sk, hp, tr, xl, rows, pa, ca] [13, 10, 11, 8, 9, 6, 7, 5, 4, 12, 0, 1] N rfl
theorem init_news {w : World} {h₀ h : Heap} {L pa ca ba ro xl tr sk hp st sd mm md rows sp sy : Addr} {oB : Obj} {vs : List Value} {k : Nat} {t1 t2 t3 tb0 tmd tms ts1 u1 u2 u3 u4 u5 a0 a1 a2 a3 a4 a5 a6 a7 a8 a9 a10 a11 a12 a13 a14 a15 a16 a17 b0 b1 b2 b3 b4 b5 b6 : Tok} (N : News h₀ L h ((pa, W.listOf #[] 0) :: (ca, W.listOf #[] 0) :: (ba, oB) :: (ro, W.listOf #[] 0) :: (xl, W.listOf #[Value.ref 180] 0) :: (tr, W.listOf #[] 0) :: (sk, W.listOf #[] 0) :: (hp, W.listOf #[] 0) :: (st, instObj 374 sd) :: (sd, dictOf [en w "symbols" b0 (.ref sy), en w "max_heap" b1 (.int 100000 ts1), en w "heap" b2 (.ref hp), en w "stack" b3 (.ref sk), en w "trail" b4 (.ref tr), en w "hb" b5 (.int 0 u4), en w "bb" b6 (.int 0 u5)] 7) :: (mm, instObj 534 md) :: (md, dictOf [en w "symbols" a0 (.ref sy), en w "code" a1 (.ref rows), en w "max_heap" a2 (.int 100000 t1), en w "occurs" a3 (.bool true), en w "max_bits" a4 (.int 4096 t2), en w "store" a5 (.ref st), en w "x" a6 (.ref xl), en w "p" a7 (.int 0 t3), en w "cp" a8 (.int 0 u1), en w "e" a9 (.int (-1) u2), en w "b" a10 (.int (-1) u3), en w "b0" a11 (.int (-1) tb0), en w "mode" a12 (.str "read" tmd), en w "s" a13 (.int 0 tms), en w "guard" a14 (.ref 180), en w "roots" a15 (.ref ro), en w "bags" a16 (.ref ba), en w "collect_wanted" a17 (.bool false)] 18) :: (rows, W.listOf #[] 0) :: (sp, W.listOf vs.toArray k) :: [])) : ∃ kt ks : Nat → Tok, News h₀ L h ((sp, W.listOf vs.toArray k) :: ((mm, instObj 534 md) :: (md, dictOf (mD w kt sy rows st xl ro ba t1 t2 t3 tb0 tmd tms 0 u1 (-1) u2 (-1) u3) 18) :: (st, instObj 374 sd) :: (sd, dictOf (sD w ks sy hp sk tr ts1 0 u4 0 u5) 7) :: (sk, W.listOf (List.toArray []) 0) :: (hp, W.listOf (List.toArray []) 0) :: (tr, W.listOf #[] 0) :: (xl, W.listOf (List.toArray [Value.ref 180]) 0) :: (rows, W.listOf (List.toArray []) 0) :: (pa, W.listOf (List.toArray []) 0) :: (ca, W.listOf (List.toArray []) 0) :: [])) :=
  ⟨(fun n => [a0, a1, a2, a3, a4, a5, a6, a7, a8, a9, a10, a11, a12, a13, a14, a15, a16, a17].getD n 0), (fun n => [b0, b1, b2, b3, b4, b5, b6].getD n 0), News.init N⟩
local macro_rules | `(tactic| walk_at "execs cons") => `(tactic| ((with_reducible show wpAny _ _ (execs lforb _) _ _ _); refine Hold.out ?_))
section
variable {prog : Program} {w : World} {A A₀ : Around} {base : Heap} {outer : List Env} {h₀ : Heap} {L fa sc : Addr} {cdv : Value} {mean : ExcName → Option Value} {mg mb : Str → Option Value} {loose : List Str} {s : Shared} {Q : Flow → Shared → Prop} {vs0 : List Value} {ns0 : List Int}
  (B : Below A₀ base outer h₀) (F : Fr h₀ L s.heap (fun x => List.lookup x [(Str.ofString "script", Value.ref sc)].reverse)) (X : (Mine.kK w.params).In h₀) (T : Top Mine.kQ loose mean mg mb h₀) (hA : A.frames = some (lenv L fa cdv :: outer)) (hH : A.handled = none) (hd : A.depth ≤ 310) (hu : A.units ≤ 3100)
  (N : News h₀ L s.heap []) (hl : base.IsList sc vs0.toArray) (hI : IntsAre vs0 ns0) (hz : ns0.length ≤ 63)
include B F X T hA hH hd hu N hl hI hz
theorem t_law (h : ∀ h' tk m' news, Fr h₀ L h' m' → News h₀ L h' news → Q (.ret (.bool true)) { s with heap := h', toks := tk }) :
    wpAny (model prog w) A (execs lawb (lenv L fa cdv)) Q (fun _ _ => False) s := by
  show wpAny _ _ (execs _ (envOf _ _ _ _ _)) _ _ _
  delta lawb lawbG lname lnameG lscope lscopeG
  repeat' (first | (k_unfold; (try dsimp only)) | ((with_reducible show wpAny _ _ (call (Value.ref _) _) _ _ _); first | ((with_reducible show wpAny _ _ (call (Value.ref 154) _) _ _ _); (k_dflt (refine' c_symbols ?B ?F ?X ?T ?hA ?hf ?hke ?hH ?hd ?hu ?x0 ?_; (case B => k_asm); (case F => k_asm); (case X => k_asm); (case T => k_asm); (case hA => tb_start); (case hf => tb_start); (case hke => tb_start); (case hH => assumption); (case hd => ktr_room); (case hu => ktr_room); (case x0 => k_asm); k_whole); (try dsimp only); intro _ _ _ _ _; (try k_sweep))) | ((with_reducible show wpAny _ _ (call (Value.ref 545) _) _ _ _); (k_dflt (refine' c_digits ?B ?F ?X ?T ?hA ?hf ?hke ?hH ?hd ?hu ?N ?x0 ?x1 ?x2 ?_; (case N => assumption); (case B => k_asm); (case F => k_asm); (case X => k_asm); (case T => k_asm); (case hA => tb_start); (case hf => tb_start); (case hke => tb_start); (case hH => assumption); (case hd => ktr_room); (case hu => ktr_room); (case x0 => assumption); (case x1 => assumption); (case x2 => omega); k_whole); (try dsimp only); intro _ _ _ _ _ _ _ _ _ _; (try k_sweep)))) | ((with_reducible show wpAny _ _ (compareOp .NotEq (.ref _) (.ref _)) _ _ _); k_dflt (refine' my_ne_nil ?N ?a ?b ?u ?_ ?_; (case N => k_asm); (case a => walk_at "my_mem"); (case b => exact .head _); (case u => (show _ < _); k_units); k_whole) <;> intro _) | ((with_reducible show wpAny _ _ (binaryOp .Add (.ref _) (.ref _)) _ _ _); k_dflt (refine' my_cat1 ?F ?N ?a ?b ?z ?_; (case F => k_asm); (case N => k_asm); (case a => walk_at "my_mem"); (case b => walk_at "my_mem"); (case z => omega)); intro _ _ _ _ l1; (try k_lt l1); revert l1; intro _; (try k_sweep)) | ((with_reducible show wpAny _ _ (subscriptTail _ _ (Value.ref _) (Value.int _ _)) _ _ _); k_dflt (refine' my_sub ?k1 ?k2 ?k3 ?_ ?k4; (case k1 => k_asm); (case k2 => walk_at "my_mem"); (case k3 => first | assumption | exact At.cast (by assumption) (by omega) | exact At.last (by omega) (by omega)); (case k4 => with_unfolding_all rfl); k_whole)) | ((with_reducible show wpAny _ _ (call (Value.builtin "len") [Value.ref _]) _ _ _); k_dflt (refine' my_len ?k1 ?k2 ?k3 ?_; (case k1 => k_asm); (case k2 => walk_at "my_mem"); (case k3 => omega); k_whole); intro _) | (walk1 <;> (try dsimp only)) | (dsimp only; walk1) | (leave1; walk_say "STEP leave1"; try dsimp only) | fail "no step")
  refine Hold.mk ?_
  rename Fr _ _ _ _ => F1
  rename News _ _ _ _ => N1
  rename IntsAre _ _ => hi1
  rename List.length _ ≤ 150 => hz1
  obtain ⟨kt, ks, N2⟩ := init_news N1
  refine t_loop (ext := []) (i := 0) (q := ⟨0, -1, -1, 0, 0, 0, _, _, _, _, _, _, 0, 0, 0, 0, _, 0, 0, [], [], [Value.ref 180], [], _, [], [], _, _, _, [], [], _⟩) B (Fr.lm F1 rfl rfl rfl rfl rfl rfl) X T hA hH hd hu N2 ⟨by omega, ⟨_, hi1⟩, hz1, ?geo, ?hsp, ?osp, .tail _ (.head _), .nil, .head _, .nil, List.nodup_nil, ⟨rfl, rfl, fun c hc => nomatch hc⟩, Nat.zero_le _, Nat.zero_le _, Nat.zero_le _, Nat.zero_le _, Nat.zero_le _, ⟨Nat.le_refl _, Nat.le_refl _⟩, (fun p hp => nomatch hp), (fun p hp => nomatch hp)⟩ rfl rfl ?fin
  case geo => exact Geo.consT (Geo.consT ⟨by omega, by omega, by omega, by omega, by omega, by omega, by omega, by omega, fun p hp => nomatch hp⟩ (by omega)) (by omega)
  case hsp => omega
  case osp => exact Off.cons1 (by omega) (Off.cons1 (by omega) (fun p hp => nomatch hp))
  case fin => exact fun h4 tk4 m4 news4 F4 N4 => h h4 tk4 m4 news4 F4 N4
end
end
local macro_rules | `(tactic| k_qdec) => `(tactic| kernel_rfl)
theorem whole : PySem.Challenge.rw_ok0027_01.Holds :=
  Mine.kHd (by
  k_go0
  w_top off
  rename Below _ _ _ _ => zK
  rename Fr _ _ _ _ => zF
  rename Frag.In _ _ => zX
  rename Top _ _ _ _ _ _ => zT
  rename News _ _ _ _ => zN
  rename Heap.IsList _ _ _ => zL
  rename IntsAre _ _ => zI
  refine wpAny_mono (Mine.t_law zK zF zX zT rfl rfl ?hd ?hu zN zL zI (by omega) (fun h4 tk4 m4 news4 F4 N4 => ?fin)) (fun _ _ h => h) (fun _ _ h => h.elim)
  case hd =>
    simp only [depth_deeper, depth_caller]
    first | done | omega | decide
  case hu => exact Nat.le_of_ble_eq_true rfl
  case fin =>
    k_end
    wrow_close)
end Mine
theorem PySem.Challenge.cw_ok0027_01_holds : PySem.Challenge.rw_ok0027_01.Holds :=
  Mine.whole
