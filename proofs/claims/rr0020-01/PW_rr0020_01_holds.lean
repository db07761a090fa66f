import PyProof.Rows.All
import Wide.All
import OpenK.AllK
import Wide.FinOn
import PySem.Challenge.RW_rr0020_01
open PySem PySem.W PyProof.Rows PySem.Calls
set_option Elab.async false
set_option compiler.extract_closed false
namespace Mine
section
def nthS : Nat → List Stmt → Stmt
  | 0, s :: _ => s
  | n + 1, _ :: r => nthS n r
  | _, [] => default
def fnN : Stmt → Str
  | .FunctionDef n .. => n
  | _ => default
def fnA : Stmt → Arguments
  | .FunctionDef _ a .. => a
  | _ => default
def fnB : Stmt → List Stmt
  | .FunctionDef _ _ b .. => b
  | .ClassDef _ _ _ b .. => b
  | _ => []
def fnS : Stmt → Scope
  | .FunctionDef _ _ _ _ _ _ s .. => s
  | _ => default
def fnP : Stmt → Pos
  | .FunctionDef _ _ _ _ _ _ _ _ _ p => p
  | _ => default

noncomputable def hd.s2 : Stmt := by
  refine' (?f : (v : Stmt) → v = (nthS 2 PySem.Challenge.pw_rr0020_01.main.body) → Stmt) ?_ ?h
  case f => exact fun v _ => v
  case h =>
    conv => rhs; whnf

noncomputable def hd.s3 : Stmt := by
  refine' (?f : (v : Stmt) → v = (nthS 3 PySem.Challenge.pw_rr0020_01.main.body) → Stmt) ?_ ?h
  case f => exact fun v _ => v
  case h =>
    conv => rhs; whnf

noncomputable def hd.s5 : Stmt := by
  refine' (?f : (v : Stmt) → v = (nthS 5 PySem.Challenge.pw_rr0020_01.main.body) → Stmt) ?_ ?h
  case f => exact fun v _ => v
  case h =>
    conv => rhs; whnf

noncomputable def hd.s17 : Stmt := by
  refine' (?f : (v : Stmt) → v = (nthS 17 PySem.Challenge.pw_rr0020_01.main.body) → Stmt) ?_ ?h
  case f => exact fun v _ => v
  case h =>
    conv => rhs; whnf

noncomputable def hd.s18 : Stmt := by
  refine' (?f : (v : Stmt) → v = (nthS 18 PySem.Challenge.pw_rr0020_01.main.body) → Stmt) ?_ ?h
  case f => exact fun v _ => v
  case h =>
    conv => rhs; whnf

noncomputable def hd.s19 : Stmt := by
  refine' (?f : (v : Stmt) → v = (nthS 19 PySem.Challenge.pw_rr0020_01.main.body) → Stmt) ?_ ?h
  case f => exact fun v _ => v
  case h =>
    conv => rhs; whnf

noncomputable def hd.s20 : Stmt := by
  refine' (?f : (v : Stmt) → v = (nthS 20 PySem.Challenge.pw_rr0020_01.main.body) → Stmt) ?_ ?h
  case f => exact fun v _ => v
  case h =>
    conv => rhs; whnf

noncomputable def hd.s21 : Stmt := by
  refine' (?f : (v : Stmt) → v = (nthS 21 PySem.Challenge.pw_rr0020_01.main.body) → Stmt) ?_ ?h
  case f => exact fun v _ => v
  case h =>
    conv => rhs; whnf

noncomputable def hd.s22 : Stmt := by
  refine' (?f : (v : Stmt) → v = (nthS 22 PySem.Challenge.pw_rr0020_01.main.body) → Stmt) ?_ ?h
  case f => exact fun v _ => v
  case h =>
    conv => rhs; whnf

noncomputable def hd.s23 : Stmt := by
  refine' (?f : (v : Stmt) → v = (nthS 23 PySem.Challenge.pw_rr0020_01.main.body) → Stmt) ?_ ?h
  case f => exact fun v _ => v
  case h =>
    conv => rhs; whnf

noncomputable def hd.s24 : Stmt := by
  refine' (?f : (v : Stmt) → v = (nthS 24 PySem.Challenge.pw_rr0020_01.main.body) → Stmt) ?_ ?h
  case f => exact fun v _ => v
  case h =>
    conv => rhs; whnf

noncomputable def hd.s25 : Stmt := by
  refine' (?f : (v : Stmt) → v = (nthS 25 PySem.Challenge.pw_rr0020_01.main.body) → Stmt) ?_ ?h
  case f => exact fun v _ => v
  case h =>
    conv => rhs; whnf

noncomputable def hd.s26 : Stmt := by
  refine' (?f : (v : Stmt) → v = (nthS 26 PySem.Challenge.pw_rr0020_01.main.body) → Stmt) ?_ ?h
  case f => exact fun v _ => v
  case h =>
    conv => rhs; whnf

noncomputable def hd.s27 : Stmt := by
  refine' (?f : (v : Stmt) → v = (nthS 27 PySem.Challenge.pw_rr0020_01.main.body) → Stmt) ?_ ?h
  case f => exact fun v _ => v
  case h =>
    conv => rhs; whnf

noncomputable def hd.s28 : Stmt := by
  refine' (?f : (v : Stmt) → v = (nthS 28 PySem.Challenge.pw_rr0020_01.main.body) → Stmt) ?_ ?h
  case f => exact fun v _ => v
  case h =>
    conv => rhs; whnf

noncomputable def hd.s29 : Stmt := by
  refine' (?f : (v : Stmt) → v = (nthS 29 PySem.Challenge.pw_rr0020_01.main.body) → Stmt) ?_ ?h
  case f => exact fun v _ => v
  case h =>
    conv => rhs; whnf

noncomputable def hd.s30 : Stmt := by
  refine' (?f : (v : Stmt) → v = (nthS 30 PySem.Challenge.pw_rr0020_01.main.body) → Stmt) ?_ ?h
  case f => exact fun v _ => v
  case h =>
    conv => rhs; whnf

noncomputable def hd.s31 : Stmt := by
  refine' (?f : (v : Stmt) → v = (nthS 31 PySem.Challenge.pw_rr0020_01.main.body) → Stmt) ?_ ?h
  case f => exact fun v _ => v
  case h =>
    conv => rhs; whnf

noncomputable def hd.s32 : Stmt := by
  refine' (?f : (v : Stmt) → v = (nthS 32 PySem.Challenge.pw_rr0020_01.main.body) → Stmt) ?_ ?h
  case f => exact fun v _ => v
  case h =>
    conv => rhs; whnf

noncomputable def hd.s33 : Stmt := by
  refine' (?f : (v : Stmt) → v = (nthS 33 PySem.Challenge.pw_rr0020_01.main.body) → Stmt) ?_ ?h
  case f => exact fun v _ => v
  case h =>
    conv => rhs; whnf

noncomputable def hd.s36 : Stmt := by
  refine' (?f : (v : Stmt) → v = (nthS 36 PySem.Challenge.pw_rr0020_01.main.body) → Stmt) ?_ ?h
  case f => exact fun v _ => v
  case h =>
    conv => rhs; whnf

noncomputable def hd.s0 : Stmt := by
  refine' (?f : (v : Stmt) → v = (nthS 0 PySem.Challenge.pw_rr0020_01.main.body) → Stmt) ?_ ?h
  case f => exact fun v _ => v
  case h =>
    conv => rhs; whnf

noncomputable def hd.s3m0 : Stmt := by
  refine' (?f : (v : Stmt) → v = (nthS 0 (fnB (nthS 3 PySem.Challenge.pw_rr0020_01.main.body))) → Stmt) ?_ ?h
  case f => exact fun v _ => v
  case h =>
    conv => rhs; whnf

noncomputable def hd.s6 : Stmt := by
  refine' (?f : (v : Stmt) → v = (nthS 6 PySem.Challenge.pw_rr0020_01.main.body) → Stmt) ?_ ?h
  case f => exact fun v _ => v
  case h =>
    conv => rhs; whnf

noncomputable def hd.s7 : Stmt := by
  refine' (?f : (v : Stmt) → v = (nthS 7 PySem.Challenge.pw_rr0020_01.main.body) → Stmt) ?_ ?h
  case f => exact fun v _ => v
  case h =>
    conv => rhs; whnf

noncomputable def hd.s8 : Stmt := by
  refine' (?f : (v : Stmt) → v = (nthS 8 PySem.Challenge.pw_rr0020_01.main.body) → Stmt) ?_ ?h
  case f => exact fun v _ => v
  case h =>
    conv => rhs; whnf

noncomputable def hd.s9 : Stmt := by
  refine' (?f : (v : Stmt) → v = (nthS 9 PySem.Challenge.pw_rr0020_01.main.body) → Stmt) ?_ ?h
  case f => exact fun v _ => v
  case h =>
    conv => rhs; whnf

noncomputable def hd.s10 : Stmt := by
  refine' (?f : (v : Stmt) → v = (nthS 10 PySem.Challenge.pw_rr0020_01.main.body) → Stmt) ?_ ?h
  case f => exact fun v _ => v
  case h =>
    conv => rhs; whnf

noncomputable def hd.s11 : Stmt := by
  refine' (?f : (v : Stmt) → v = (nthS 11 PySem.Challenge.pw_rr0020_01.main.body) → Stmt) ?_ ?h
  case f => exact fun v _ => v
  case h =>
    conv => rhs; whnf

noncomputable def hd.s12 : Stmt := by
  refine' (?f : (v : Stmt) → v = (nthS 12 PySem.Challenge.pw_rr0020_01.main.body) → Stmt) ?_ ?h
  case f => exact fun v _ => v
  case h =>
    conv => rhs; whnf

noncomputable def hd.s13 : Stmt := by
  refine' (?f : (v : Stmt) → v = (nthS 13 PySem.Challenge.pw_rr0020_01.main.body) → Stmt) ?_ ?h
  case f => exact fun v _ => v
  case h =>
    conv => rhs; whnf

noncomputable def hd.s14 : Stmt := by
  refine' (?f : (v : Stmt) → v = (nthS 14 PySem.Challenge.pw_rr0020_01.main.body) → Stmt) ?_ ?h
  case f => exact fun v _ => v
  case h =>
    conv => rhs; whnf

noncomputable def hd.s15 : Stmt := by
  refine' (?f : (v : Stmt) → v = (nthS 15 PySem.Challenge.pw_rr0020_01.main.body) → Stmt) ?_ ?h
  case f => exact fun v _ => v
  case h =>
    conv => rhs; whnf

noncomputable def hd.s34 : Stmt := by
  refine' (?f : (v : Stmt) → v = (nthS 34 PySem.Challenge.pw_rr0020_01.main.body) → Stmt) ?_ ?h
  case f => exact fun v _ => v
  case h =>
    conv => rhs; whnf

noncomputable def hd.s35 : Stmt := by
  refine' (?f : (v : Stmt) → v = (nthS 35 PySem.Challenge.pw_rr0020_01.main.body) → Stmt) ?_ ?h
  case f => exact fun v _ => v
  case h =>
    conv => rhs; whnf

noncomputable def hd.s36m0 : Stmt := by
  refine' (?f : (v : Stmt) → v = (nthS 0 (fnB (nthS 36 PySem.Challenge.pw_rr0020_01.main.body))) → Stmt) ?_ ?h
  case f => exact fun v _ => v
  case h =>
    conv => rhs; whnf

noncomputable def hd.s36m1 : Stmt := by
  refine' (?f : (v : Stmt) → v = (nthS 1 (fnB (nthS 36 PySem.Challenge.pw_rr0020_01.main.body))) → Stmt) ?_ ?h
  case f => exact fun v _ => v
  case h =>
    conv => rhs; whnf

noncomputable def hd.s36m2 : Stmt := by
  refine' (?f : (v : Stmt) → v = (nthS 2 (fnB (nthS 36 PySem.Challenge.pw_rr0020_01.main.body))) → Stmt) ?_ ?h
  case f => exact fun v _ => v
  case h =>
    conv => rhs; whnf

noncomputable def hd.s36m3 : Stmt := by
  refine' (?f : (v : Stmt) → v = (nthS 3 (fnB (nthS 36 PySem.Challenge.pw_rr0020_01.main.body))) → Stmt) ?_ ?h
  case f => exact fun v _ => v
  case h =>
    conv => rhs; whnf

noncomputable def hd.s36m4 : Stmt := by
  refine' (?f : (v : Stmt) → v = (nthS 4 (fnB (nthS 36 PySem.Challenge.pw_rr0020_01.main.body))) → Stmt) ?_ ?h
  case f => exact fun v _ => v
  case h =>
    conv => rhs; whnf

noncomputable def hd.s36m5 : Stmt := by
  refine' (?f : (v : Stmt) → v = (nthS 5 (fnB (nthS 36 PySem.Challenge.pw_rr0020_01.main.body))) → Stmt) ?_ ?h
  case f => exact fun v _ => v
  case h =>
    conv => rhs; whnf

noncomputable def hd.s36m6 : Stmt := by
  refine' (?f : (v : Stmt) → v = (nthS 6 (fnB (nthS 36 PySem.Challenge.pw_rr0020_01.main.body))) → Stmt) ?_ ?h
  case f => exact fun v _ => v
  case h =>
    conv => rhs; whnf

noncomputable def hd.s36m7 : Stmt := by
  refine' (?f : (v : Stmt) → v = (nthS 7 (fnB (nthS 36 PySem.Challenge.pw_rr0020_01.main.body))) → Stmt) ?_ ?h
  case f => exact fun v _ => v
  case h =>
    conv => rhs; whnf

noncomputable def hd.s36m8 : Stmt := by
  refine' (?f : (v : Stmt) → v = (nthS 8 (fnB (nthS 36 PySem.Challenge.pw_rr0020_01.main.body))) → Stmt) ?_ ?h
  case f => exact fun v _ => v
  case h =>
    conv => rhs; whnf

noncomputable def hd.s36m9 : Stmt := by
  refine' (?f : (v : Stmt) → v = (nthS 9 (fnB (nthS 36 PySem.Challenge.pw_rr0020_01.main.body))) → Stmt) ?_ ?h
  case f => exact fun v _ => v
  case h =>
    conv => rhs; whnf

noncomputable def hd.s36m10 : Stmt := by
  refine' (?f : (v : Stmt) → v = (nthS 10 (fnB (nthS 36 PySem.Challenge.pw_rr0020_01.main.body))) → Stmt) ?_ ?h
  case f => exact fun v _ => v
  case h =>
    conv => rhs; whnf

noncomputable def hd.s36m11 : Stmt := by
  refine' (?f : (v : Stmt) → v = (nthS 11 (fnB (nthS 36 PySem.Challenge.pw_rr0020_01.main.body))) → Stmt) ?_ ?h
  case f => exact fun v _ => v
  case h =>
    conv => rhs; whnf

noncomputable def hd.s36m12 : Stmt := by
  refine' (?f : (v : Stmt) → v = (nthS 12 (fnB (nthS 36 PySem.Challenge.pw_rr0020_01.main.body))) → Stmt) ?_ ?h
  case f => exact fun v _ => v
  case h =>
    conv => rhs; whnf

noncomputable def hd.s36m13 : Stmt := by
  refine' (?f : (v : Stmt) → v = (nthS 13 (fnB (nthS 36 PySem.Challenge.pw_rr0020_01.main.body))) → Stmt) ?_ ?h
  case f => exact fun v _ => v
  case h =>
    conv => rhs; whnf

noncomputable def hd.s36m14 : Stmt := by
  refine' (?f : (v : Stmt) → v = (nthS 14 (fnB (nthS 36 PySem.Challenge.pw_rr0020_01.main.body))) → Stmt) ?_ ?h
  case f => exact fun v _ => v
  case h =>
    conv => rhs; whnf

noncomputable def hd.s36m15 : Stmt := by
  refine' (?f : (v : Stmt) → v = (nthS 15 (fnB (nthS 36 PySem.Challenge.pw_rr0020_01.main.body))) → Stmt) ?_ ?h
  case f => exact fun v _ => v
  case h =>
    conv => rhs; whnf

noncomputable def hd.s36m16 : Stmt := by
  refine' (?f : (v : Stmt) → v = (nthS 16 (fnB (nthS 36 PySem.Challenge.pw_rr0020_01.main.body))) → Stmt) ?_ ?h
  case f => exact fun v _ => v
  case h =>
    conv => rhs; whnf

noncomputable def hd.s36m17 : Stmt := by
  refine' (?f : (v : Stmt) → v = (nthS 17 (fnB (nthS 36 PySem.Challenge.pw_rr0020_01.main.body))) → Stmt) ?_ ?h
  case f => exact fun v _ => v
  case h =>
    conv => rhs; whnf

noncomputable def hd.s37 : Stmt := by
  refine' (?f : (v : Stmt) → v = (nthS 37 PySem.Challenge.pw_rr0020_01.main.body) → Stmt) ?_ ?h
  case f => exact fun v _ => v
  case h =>
    conv => rhs; whnf

noncomputable def hd.s39 : Stmt := by
  refine' (?f : (v : Stmt) → v = (nthS 39 PySem.Challenge.pw_rr0020_01.main.body) → Stmt) ?_ ?h
  case f => exact fun v _ => v
  case h =>
    conv => rhs; whnf

noncomputable def hd.s0a : Arguments := by
  refine' (?f : (v : Arguments) → v = (fnA hd.s0) → Arguments) ?_ ?h
  case f => exact fun v _ => v
  case h =>
    conv => rhs; whnf

noncomputable def hd.s0b : List Stmt := by
  refine' (?f : (v : List Stmt) → v = (fnB hd.s0) → List Stmt) ?_ ?h
  case f => exact fun v _ => v
  case h =>
    conv => rhs; whnf

noncomputable def hd.s0c : Scope := by
  refine' (?f : (v : Scope) → v = (fnS hd.s0) → Scope) ?_ ?h
  case f => exact fun v _ => v
  case h =>
    conv => rhs; whnf

noncomputable def hd.s3m0a : Arguments := by
  refine' (?f : (v : Arguments) → v = (fnA hd.s3m0) → Arguments) ?_ ?h
  case f => exact fun v _ => v
  case h =>
    conv => rhs; whnf

noncomputable def hd.s3m0b : List Stmt := by
  refine' (?f : (v : List Stmt) → v = (fnB hd.s3m0) → List Stmt) ?_ ?h
  case f => exact fun v _ => v
  case h =>
    conv => rhs; whnf

noncomputable def hd.s3m0c : Scope := by
  refine' (?f : (v : Scope) → v = (fnS hd.s3m0) → Scope) ?_ ?h
  case f => exact fun v _ => v
  case h =>
    conv => rhs; whnf

noncomputable def hd.s6a : Arguments := by
  refine' (?f : (v : Arguments) → v = (fnA hd.s6) → Arguments) ?_ ?h
  case f => exact fun v _ => v
  case h =>
    conv => rhs; whnf

noncomputable def hd.s6b : List Stmt := by
  refine' (?f : (v : List Stmt) → v = (fnB hd.s6) → List Stmt) ?_ ?h
  case f => exact fun v _ => v
  case h =>
    conv => rhs; whnf

noncomputable def hd.s6c : Scope := by
  refine' (?f : (v : Scope) → v = (fnS hd.s6) → Scope) ?_ ?h
  case f => exact fun v _ => v
  case h =>
    conv => rhs; whnf

noncomputable def hd.s7a : Arguments := by
  refine' (?f : (v : Arguments) → v = (fnA hd.s7) → Arguments) ?_ ?h
  case f => exact fun v _ => v
  case h =>
    conv => rhs; whnf

noncomputable def hd.s7b : List Stmt := by
  refine' (?f : (v : List Stmt) → v = (fnB hd.s7) → List Stmt) ?_ ?h
  case f => exact fun v _ => v
  case h =>
    conv => rhs; whnf

noncomputable def hd.s7c : Scope := by
  refine' (?f : (v : Scope) → v = (fnS hd.s7) → Scope) ?_ ?h
  case f => exact fun v _ => v
  case h =>
    conv => rhs; whnf

noncomputable def hd.s8a : Arguments := by
  refine' (?f : (v : Arguments) → v = (fnA hd.s8) → Arguments) ?_ ?h
  case f => exact fun v _ => v
  case h =>
    conv => rhs; whnf

noncomputable def hd.s8b : List Stmt := by
  refine' (?f : (v : List Stmt) → v = (fnB hd.s8) → List Stmt) ?_ ?h
  case f => exact fun v _ => v
  case h =>
    conv => rhs; whnf

noncomputable def hd.s8c : Scope := by
  refine' (?f : (v : Scope) → v = (fnS hd.s8) → Scope) ?_ ?h
  case f => exact fun v _ => v
  case h =>
    conv => rhs; whnf

noncomputable def hd.s9a : Arguments := by
  refine' (?f : (v : Arguments) → v = (fnA hd.s9) → Arguments) ?_ ?h
  case f => exact fun v _ => v
  case h =>
    conv => rhs; whnf

noncomputable def hd.s9b : List Stmt := by
  refine' (?f : (v : List Stmt) → v = (fnB hd.s9) → List Stmt) ?_ ?h
  case f => exact fun v _ => v
  case h =>
    conv => rhs; whnf

noncomputable def hd.s9c : Scope := by
  refine' (?f : (v : Scope) → v = (fnS hd.s9) → Scope) ?_ ?h
  case f => exact fun v _ => v
  case h =>
    conv => rhs; whnf

noncomputable def hd.s10a : Arguments := by
  refine' (?f : (v : Arguments) → v = (fnA hd.s10) → Arguments) ?_ ?h
  case f => exact fun v _ => v
  case h =>
    conv => rhs; whnf

noncomputable def hd.s10b : List Stmt := by
  refine' (?f : (v : List Stmt) → v = (fnB hd.s10) → List Stmt) ?_ ?h
  case f => exact fun v _ => v
  case h =>
    conv => rhs; whnf

noncomputable def hd.s10c : Scope := by
  refine' (?f : (v : Scope) → v = (fnS hd.s10) → Scope) ?_ ?h
  case f => exact fun v _ => v
  case h =>
    conv => rhs; whnf

noncomputable def hd.s11a : Arguments := by
  refine' (?f : (v : Arguments) → v = (fnA hd.s11) → Arguments) ?_ ?h
  case f => exact fun v _ => v
  case h =>
    conv => rhs; whnf

noncomputable def hd.s11b : List Stmt := by
  refine' (?f : (v : List Stmt) → v = (fnB hd.s11) → List Stmt) ?_ ?h
  case f => exact fun v _ => v
  case h =>
    conv => rhs; whnf

noncomputable def hd.s11c : Scope := by
  refine' (?f : (v : Scope) → v = (fnS hd.s11) → Scope) ?_ ?h
  case f => exact fun v _ => v
  case h =>
    conv => rhs; whnf

noncomputable def hd.s12a : Arguments := by
  refine' (?f : (v : Arguments) → v = (fnA hd.s12) → Arguments) ?_ ?h
  case f => exact fun v _ => v
  case h =>
    conv => rhs; whnf

noncomputable def hd.s12b : List Stmt := by
  refine' (?f : (v : List Stmt) → v = (fnB hd.s12) → List Stmt) ?_ ?h
  case f => exact fun v _ => v
  case h =>
    conv => rhs; whnf

noncomputable def hd.s12c : Scope := by
  refine' (?f : (v : Scope) → v = (fnS hd.s12) → Scope) ?_ ?h
  case f => exact fun v _ => v
  case h =>
    conv => rhs; whnf

noncomputable def hd.s13a : Arguments := by
  refine' (?f : (v : Arguments) → v = (fnA hd.s13) → Arguments) ?_ ?h
  case f => exact fun v _ => v
  case h =>
    conv => rhs; whnf

noncomputable def hd.s13b : List Stmt := by
  refine' (?f : (v : List Stmt) → v = (fnB hd.s13) → List Stmt) ?_ ?h
  case f => exact fun v _ => v
  case h =>
    conv => rhs; whnf

noncomputable def hd.s13c : Scope := by
  refine' (?f : (v : Scope) → v = (fnS hd.s13) → Scope) ?_ ?h
  case f => exact fun v _ => v
  case h =>
    conv => rhs; whnf

noncomputable def hd.s14a : Arguments := by
  refine' (?f : (v : Arguments) → v = (fnA hd.s14) → Arguments) ?_ ?h
  case f => exact fun v _ => v
  case h =>
    conv => rhs; whnf

noncomputable def hd.s14b : List Stmt := by
  refine' (?f : (v : List Stmt) → v = (fnB hd.s14) → List Stmt) ?_ ?h
  case f => exact fun v _ => v
  case h =>
    conv => rhs; whnf

noncomputable def hd.s14c : Scope := by
  refine' (?f : (v : Scope) → v = (fnS hd.s14) → Scope) ?_ ?h
  case f => exact fun v _ => v
  case h =>
    conv => rhs; whnf

noncomputable def hd.s15a : Arguments := by
  refine' (?f : (v : Arguments) → v = (fnA hd.s15) → Arguments) ?_ ?h
  case f => exact fun v _ => v
  case h =>
    conv => rhs; whnf

noncomputable def hd.s15b : List Stmt := by
  refine' (?f : (v : List Stmt) → v = (fnB hd.s15) → List Stmt) ?_ ?h
  case f => exact fun v _ => v
  case h =>
    conv => rhs; whnf

noncomputable def hd.s15c : Scope := by
  refine' (?f : (v : Scope) → v = (fnS hd.s15) → Scope) ?_ ?h
  case f => exact fun v _ => v
  case h =>
    conv => rhs; whnf

noncomputable def hd.s34a : Arguments := by
  refine' (?f : (v : Arguments) → v = (fnA hd.s34) → Arguments) ?_ ?h
  case f => exact fun v _ => v
  case h =>
    conv => rhs; whnf

noncomputable def hd.s34b : List Stmt := by
  refine' (?f : (v : List Stmt) → v = (fnB hd.s34) → List Stmt) ?_ ?h
  case f => exact fun v _ => v
  case h =>
    conv => rhs; whnf

noncomputable def hd.s34c : Scope := by
  refine' (?f : (v : Scope) → v = (fnS hd.s34) → Scope) ?_ ?h
  case f => exact fun v _ => v
  case h =>
    conv => rhs; whnf

noncomputable def hd.s35a : Arguments := by
  refine' (?f : (v : Arguments) → v = (fnA hd.s35) → Arguments) ?_ ?h
  case f => exact fun v _ => v
  case h =>
    conv => rhs; whnf

noncomputable def hd.s35b : List Stmt := by
  refine' (?f : (v : List Stmt) → v = (fnB hd.s35) → List Stmt) ?_ ?h
  case f => exact fun v _ => v
  case h =>
    conv => rhs; whnf

noncomputable def hd.s35c : Scope := by
  refine' (?f : (v : Scope) → v = (fnS hd.s35) → Scope) ?_ ?h
  case f => exact fun v _ => v
  case h =>
    conv => rhs; whnf

noncomputable def hd.s36m0a : Arguments := by
  refine' (?f : (v : Arguments) → v = (fnA hd.s36m0) → Arguments) ?_ ?h
  case f => exact fun v _ => v
  case h =>
    conv => rhs; whnf

noncomputable def hd.s36m0b : List Stmt := by
  refine' (?f : (v : List Stmt) → v = (fnB hd.s36m0) → List Stmt) ?_ ?h
  case f => exact fun v _ => v
  case h =>
    conv => rhs; whnf

noncomputable def hd.s36m0c : Scope := by
  refine' (?f : (v : Scope) → v = (fnS hd.s36m0) → Scope) ?_ ?h
  case f => exact fun v _ => v
  case h =>
    conv => rhs; whnf

noncomputable def hd.s36m1a : Arguments := by
  refine' (?f : (v : Arguments) → v = (fnA hd.s36m1) → Arguments) ?_ ?h
  case f => exact fun v _ => v
  case h =>
    conv => rhs; whnf

noncomputable def hd.s36m1b : List Stmt := by
  refine' (?f : (v : List Stmt) → v = (fnB hd.s36m1) → List Stmt) ?_ ?h
  case f => exact fun v _ => v
  case h =>
    conv => rhs; whnf

noncomputable def hd.s36m1c : Scope := by
  refine' (?f : (v : Scope) → v = (fnS hd.s36m1) → Scope) ?_ ?h
  case f => exact fun v _ => v
  case h =>
    conv => rhs; whnf

noncomputable def hd.s36m2a : Arguments := by
  refine' (?f : (v : Arguments) → v = (fnA hd.s36m2) → Arguments) ?_ ?h
  case f => exact fun v _ => v
  case h =>
    conv => rhs; whnf

noncomputable def hd.s36m2b : List Stmt := by
  refine' (?f : (v : List Stmt) → v = (fnB hd.s36m2) → List Stmt) ?_ ?h
  case f => exact fun v _ => v
  case h =>
    conv => rhs; whnf

noncomputable def hd.s36m2c : Scope := by
  refine' (?f : (v : Scope) → v = (fnS hd.s36m2) → Scope) ?_ ?h
  case f => exact fun v _ => v
  case h =>
    conv => rhs; whnf

noncomputable def hd.s36m3a : Arguments := by
  refine' (?f : (v : Arguments) → v = (fnA hd.s36m3) → Arguments) ?_ ?h
  case f => exact fun v _ => v
  case h =>
    conv => rhs; whnf

noncomputable def hd.s36m3b : List Stmt := by
  refine' (?f : (v : List Stmt) → v = (fnB hd.s36m3) → List Stmt) ?_ ?h
  case f => exact fun v _ => v
  case h =>
    conv => rhs; whnf

noncomputable def hd.s36m3c : Scope := by
  refine' (?f : (v : Scope) → v = (fnS hd.s36m3) → Scope) ?_ ?h
  case f => exact fun v _ => v
  case h =>
    conv => rhs; whnf

noncomputable def hd.s36m4a : Arguments := by
  refine' (?f : (v : Arguments) → v = (fnA hd.s36m4) → Arguments) ?_ ?h
  case f => exact fun v _ => v
  case h =>
    conv => rhs; whnf

noncomputable def hd.s36m4b : List Stmt := by
  refine' (?f : (v : List Stmt) → v = (fnB hd.s36m4) → List Stmt) ?_ ?h
  case f => exact fun v _ => v
  case h =>
    conv => rhs; whnf

noncomputable def hd.s36m4c : Scope := by
  refine' (?f : (v : Scope) → v = (fnS hd.s36m4) → Scope) ?_ ?h
  case f => exact fun v _ => v
  case h =>
    conv => rhs; whnf

noncomputable def hd.s36m5a : Arguments := by
  refine' (?f : (v : Arguments) → v = (fnA hd.s36m5) → Arguments) ?_ ?h
  case f => exact fun v _ => v
  case h =>
    conv => rhs; whnf

noncomputable def hd.s36m5b : List Stmt := by
  refine' (?f : (v : List Stmt) → v = (fnB hd.s36m5) → List Stmt) ?_ ?h
  case f => exact fun v _ => v
  case h =>
    conv => rhs; whnf

noncomputable def hd.s36m5c : Scope := by
  refine' (?f : (v : Scope) → v = (fnS hd.s36m5) → Scope) ?_ ?h
  case f => exact fun v _ => v
  case h =>
    conv => rhs; whnf

noncomputable def hd.s36m6a : Arguments := by
  refine' (?f : (v : Arguments) → v = (fnA hd.s36m6) → Arguments) ?_ ?h
  case f => exact fun v _ => v
  case h =>
    conv => rhs; whnf

noncomputable def hd.s36m6b : List Stmt := by
  refine' (?f : (v : List Stmt) → v = (fnB hd.s36m6) → List Stmt) ?_ ?h
  case f => exact fun v _ => v
  case h =>
    conv => rhs; whnf

noncomputable def hd.s36m6c : Scope := by
  refine' (?f : (v : Scope) → v = (fnS hd.s36m6) → Scope) ?_ ?h
  case f => exact fun v _ => v
  case h =>
    conv => rhs; whnf

noncomputable def hd.s36m7a : Arguments := by
  refine' (?f : (v : Arguments) → v = (fnA hd.s36m7) → Arguments) ?_ ?h
  case f => exact fun v _ => v
  case h =>
    conv => rhs; whnf

noncomputable def hd.s36m7b : List Stmt := by
  refine' (?f : (v : List Stmt) → v = (fnB hd.s36m7) → List Stmt) ?_ ?h
  case f => exact fun v _ => v
  case h =>
    conv => rhs; whnf

noncomputable def hd.s36m7c : Scope := by
  refine' (?f : (v : Scope) → v = (fnS hd.s36m7) → Scope) ?_ ?h
  case f => exact fun v _ => v
  case h =>
    conv => rhs; whnf

noncomputable def hd.s36m8a : Arguments := by
  refine' (?f : (v : Arguments) → v = (fnA hd.s36m8) → Arguments) ?_ ?h
  case f => exact fun v _ => v
  case h =>
    conv => rhs; whnf

noncomputable def hd.s36m8b : List Stmt := by
  refine' (?f : (v : List Stmt) → v = (fnB hd.s36m8) → List Stmt) ?_ ?h
  case f => exact fun v _ => v
  case h =>
    conv => rhs; whnf

noncomputable def hd.s36m8c : Scope := by
  refine' (?f : (v : Scope) → v = (fnS hd.s36m8) → Scope) ?_ ?h
  case f => exact fun v _ => v
  case h =>
    conv => rhs; whnf

noncomputable def hd.s36m9a : Arguments := by
  refine' (?f : (v : Arguments) → v = (fnA hd.s36m9) → Arguments) ?_ ?h
  case f => exact fun v _ => v
  case h =>
    conv => rhs; whnf

noncomputable def hd.s36m9b : List Stmt := by
  refine' (?f : (v : List Stmt) → v = (fnB hd.s36m9) → List Stmt) ?_ ?h
  case f => exact fun v _ => v
  case h =>
    conv => rhs; whnf

noncomputable def hd.s36m9c : Scope := by
  refine' (?f : (v : Scope) → v = (fnS hd.s36m9) → Scope) ?_ ?h
  case f => exact fun v _ => v
  case h =>
    conv => rhs; whnf

noncomputable def hd.s36m10a : Arguments := by
  refine' (?f : (v : Arguments) → v = (fnA hd.s36m10) → Arguments) ?_ ?h
  case f => exact fun v _ => v
  case h =>
    conv => rhs; whnf

noncomputable def hd.s36m10b : List Stmt := by
  refine' (?f : (v : List Stmt) → v = (fnB hd.s36m10) → List Stmt) ?_ ?h
  case f => exact fun v _ => v
  case h =>
    conv => rhs; whnf

noncomputable def hd.s36m10c : Scope := by
  refine' (?f : (v : Scope) → v = (fnS hd.s36m10) → Scope) ?_ ?h
  case f => exact fun v _ => v
  case h =>
    conv => rhs; whnf

noncomputable def hd.s36m11a : Arguments := by
  refine' (?f : (v : Arguments) → v = (fnA hd.s36m11) → Arguments) ?_ ?h
  case f => exact fun v _ => v
  case h =>
    conv => rhs; whnf

noncomputable def hd.s36m11b : List Stmt := by
  refine' (?f : (v : List Stmt) → v = (fnB hd.s36m11) → List Stmt) ?_ ?h
  case f => exact fun v _ => v
  case h =>
    conv => rhs; whnf

noncomputable def hd.s36m11c : Scope := by
  refine' (?f : (v : Scope) → v = (fnS hd.s36m11) → Scope) ?_ ?h
  case f => exact fun v _ => v
  case h =>
    conv => rhs; whnf

noncomputable def hd.s36m12a : Arguments := by
  refine' (?f : (v : Arguments) → v = (fnA hd.s36m12) → Arguments) ?_ ?h
  case f => exact fun v _ => v
  case h =>
    conv => rhs; whnf

noncomputable def hd.s36m12b : List Stmt := by
  refine' (?f : (v : List Stmt) → v = (fnB hd.s36m12) → List Stmt) ?_ ?h
  case f => exact fun v _ => v
  case h =>
    conv => rhs; whnf

noncomputable def hd.s36m12c : Scope := by
  refine' (?f : (v : Scope) → v = (fnS hd.s36m12) → Scope) ?_ ?h
  case f => exact fun v _ => v
  case h =>
    conv => rhs; whnf

noncomputable def hd.s36m13a : Arguments := by
  refine' (?f : (v : Arguments) → v = (fnA hd.s36m13) → Arguments) ?_ ?h
  case f => exact fun v _ => v
  case h =>
    conv => rhs; whnf

noncomputable def hd.s36m13b : List Stmt := by
  refine' (?f : (v : List Stmt) → v = (fnB hd.s36m13) → List Stmt) ?_ ?h
  case f => exact fun v _ => v
  case h =>
    conv => rhs; whnf

noncomputable def hd.s36m13c : Scope := by
  refine' (?f : (v : Scope) → v = (fnS hd.s36m13) → Scope) ?_ ?h
  case f => exact fun v _ => v
  case h =>
    conv => rhs; whnf

noncomputable def hd.s36m14a : Arguments := by
  refine' (?f : (v : Arguments) → v = (fnA hd.s36m14) → Arguments) ?_ ?h
  case f => exact fun v _ => v
  case h =>
    conv => rhs; whnf

noncomputable def hd.s36m14b : List Stmt := by
  refine' (?f : (v : List Stmt) → v = (fnB hd.s36m14) → List Stmt) ?_ ?h
  case f => exact fun v _ => v
  case h =>
    conv => rhs; whnf

noncomputable def hd.s36m14c : Scope := by
  refine' (?f : (v : Scope) → v = (fnS hd.s36m14) → Scope) ?_ ?h
  case f => exact fun v _ => v
  case h =>
    conv => rhs; whnf

noncomputable def hd.s36m15a : Arguments := by
  refine' (?f : (v : Arguments) → v = (fnA hd.s36m15) → Arguments) ?_ ?h
  case f => exact fun v _ => v
  case h =>
    conv => rhs; whnf

noncomputable def hd.s36m15b : List Stmt := by
  refine' (?f : (v : List Stmt) → v = (fnB hd.s36m15) → List Stmt) ?_ ?h
  case f => exact fun v _ => v
  case h =>
    conv => rhs; whnf

noncomputable def hd.s36m15c : Scope := by
  refine' (?f : (v : Scope) → v = (fnS hd.s36m15) → Scope) ?_ ?h
  case f => exact fun v _ => v
  case h =>
    conv => rhs; whnf

noncomputable def hd.s36m16a : Arguments := by
  refine' (?f : (v : Arguments) → v = (fnA hd.s36m16) → Arguments) ?_ ?h
  case f => exact fun v _ => v
  case h =>
    conv => rhs; whnf

noncomputable def hd.s36m16b : List Stmt := by
  refine' (?f : (v : List Stmt) → v = (fnB hd.s36m16) → List Stmt) ?_ ?h
  case f => exact fun v _ => v
  case h =>
    conv => rhs; whnf

noncomputable def hd.s36m16c : Scope := by
  refine' (?f : (v : Scope) → v = (fnS hd.s36m16) → Scope) ?_ ?h
  case f => exact fun v _ => v
  case h =>
    conv => rhs; whnf

noncomputable def hd.s36m17a : Arguments := by
  refine' (?f : (v : Arguments) → v = (fnA hd.s36m17) → Arguments) ?_ ?h
  case f => exact fun v _ => v
  case h =>
    conv => rhs; whnf

noncomputable def hd.s36m17b : List Stmt := by
  refine' (?f : (v : List Stmt) → v = (fnB hd.s36m17) → List Stmt) ?_ ?h
  case f => exact fun v _ => v
  case h =>
    conv => rhs; whnf

noncomputable def hd.s36m17c : Scope := by
  refine' (?f : (v : Scope) → v = (fnS hd.s36m17) → Scope) ?_ ?h
  case f => exact fun v _ => v
  case h =>
    conv => rhs; whnf

noncomputable def hd.s37a : Arguments := by
  refine' (?f : (v : Arguments) → v = (fnA hd.s37) → Arguments) ?_ ?h
  case f => exact fun v _ => v
  case h =>
    conv => rhs; whnf

noncomputable def hd.s37b : List Stmt := by
  refine' (?f : (v : List Stmt) → v = (fnB hd.s37) → List Stmt) ?_ ?h
  case f => exact fun v _ => v
  case h =>
    conv => rhs; whnf

noncomputable def hd.s37c : Scope := by
  refine' (?f : (v : Scope) → v = (fnS hd.s37) → Scope) ?_ ?h
  case f => exact fun v _ => v
  case h =>
    conv => rhs; whnf

noncomputable def hd.s39a : Arguments := by
  refine' (?f : (v : Arguments) → v = (fnA hd.s39) → Arguments) ?_ ?h
  case f => exact fun v _ => v
  case h =>
    conv => rhs; whnf

noncomputable def hd.s39b : List Stmt := by
  refine' (?f : (v : List Stmt) → v = (fnB hd.s39) → List Stmt) ?_ ?h
  case f => exact fun v _ => v
  case h =>
    conv => rhs; whnf

noncomputable def hd.s39c : Scope := by
  refine' (?f : (v : Scope) → v = (fnS hd.s39) → Scope) ?_ ?h
  case f => exact fun v _ => v
  case h =>
    conv => rhs; whnf

noncomputable def hd.heap_39 : Params → Frag := by
  refine' (?f : (v : Params → Frag) → v = (fun P => ((nat_lit 2, { cls := Value.none, data := Data.dict (List.toArray ({ hash := PyData.keyHash P (Str.ofString "type.__subclasses__.Exception.0"), key := Value.str (Str.ofString "type.__subclasses__.Exception.0") 212, val := Value.int 31 0 } :: { hash := PyData.keyHash P (Str.ofString "type.__subclasses__.Exception.n"), key := Value.str (Str.ofString "type.__subclasses__.Exception.n") 213, val := Value.int 1 0 } :: [])) 2 }) ::
(nat_lit 3, { cls := Value.type "dict", data := Data.dict (List.toArray ({ hash := PyData.keyHash P (Str.ofString "__name__"), key := Value.str (Str.ofString "__name__") 165, val := Value.str (Str.ofString "law_rr0020_01") 588 } :: { hash := PyData.keyHash P (Str.ofString "__doc__"), key := Value.str (Str.ofString "__doc__") 166, val := Value.none } :: { hash := PyData.keyHash P (Str.ofString "__package__"), key := Value.str (Str.ofString "__package__") 167, val := Value.none } :: { hash := PyData.keyHash P (Str.ofString "__loader__"), key := Value.str (Str.ofString "__loader__") 168, val := Value.builtin "__main__.__loader__#opaque" } :: { hash := PyData.keyHash P (Str.ofString "__spec__"), key := Value.str (Str.ofString "__spec__") 169, val := Value.none } :: { hash := PyData.keyHash P (Str.ofString "__annotations__"), key := Value.str (Str.ofString "__annotations__") 170, val := Value.ref 6 } :: { hash := PyData.keyHash P (Str.ofString "__builtins__"), key := Value.str (Str.ofString "__builtins__") 171, val := Value.ref 4 } :: { hash := PyData.keyHash P (Str.ofString "__file__"), key := Value.str (Str.ofString "__file__") 173, val := Value.str (Str.ofString "/claim/cut.py") 172 } :: { hash := PyData.keyHash P (Str.ofString "__cached__"), key := Value.str (Str.ofString "__cached__") 174, val := Value.none } :: { hash := PyData.keyHash P (Str.ofString "_wall"), key := Value.str (Str.ofString "_wall") 193, val := Value.ref 21 } :: { hash := PyData.keyHash P (Str.ofString "ClausemillError"), key := Value.str (Str.ofString "ClausemillError") 215, val := Value.ref 31 } :: { hash := PyData.keyHash P (Str.ofString "SyntaxFault"), key := Value.str (Str.ofString "SyntaxFault") 246, val := Value.ref 51 } :: { hash := PyData.keyHash P (Str.ofString "MAX_CODE"), key := Value.str (Str.ofString "MAX_CODE") 250, val := Value.int 1114111 249 } :: { hash := PyData.keyHash P (Str.ofString "is_layout"), key := Value.str (Str.ofString "is_layout") 257, val := Value.ref 60 } :: { hash := PyData.keyHash P (Str.ofString "is_digit"), key := Value.str (Str.ofString "is_digit") 264, val := Value.ref 67 } :: { hash := PyData.keyHash P (Str.ofString "is_small"), key := Value.str (Str.ofString "is_small") 271, val := Value.ref 74 } :: { hash := PyData.keyHash P (Str.ofString "is_capital"), key := Value.str (Str.ofString "is_capital") 278, val := Value.ref 81 } :: { hash := PyData.keyHash P (Str.ofString "is_alnum"), key := Value.str (Str.ofString "is_alnum") 285, val := Value.ref 88 } :: { hash := PyData.keyHash P (Str.ofString "is_symbol"), key := Value.str (Str.ofString "is_symbol") 292, val := Value.ref 95 } :: { hash := PyData.keyHash P (Str.ofString "is_quotable"), key := Value.str (Str.ofString "is_quotable") 299, val := Value.ref 102 } :: { hash := PyData.keyHash P (Str.ofString "digit_value"), key := Value.str (Str.ofString "digit_value") 306, val := Value.ref 109 } :: { hash := PyData.keyHash P (Str.ofString "text_codes"), key := Value.str (Str.ofString "text_codes") 312, val := Value.ref 114 } :: { hash := PyData.keyHash P (Str.ofString "codes_text"), key := Value.str (Str.ofString "codes_text") 318, val := Value.ref 119 } :: { hash := PyData.keyHash P (Str.ofString "NO_CODE"), key := Value.str (Str.ofString "NO_CODE") 323, val := Value.int (-1) 322 } :: { hash := PyData.keyHash P (Str.ofString "BAD_CODE"), key := Value.str (Str.ofString "BAD_CODE") 326, val := Value.int (-2) 325 } :: { hash := PyData.keyHash P (Str.ofString "NEW_LINE"), key := Value.str (Str.ofString "NEW_LINE") 328, val := Value.int 10 327 } :: { hash := PyData.keyHash P (Str.ofString "DOUBLE_QUOTE"), key := Value.str (Str.ofString "DOUBLE_QUOTE") 330, val := Value.int 34 329 } :: { hash := PyData.keyHash P (Str.ofString "PERCENT"), key := Value.str (Str.ofString "PERCENT") 332, val := Value.int 37 331 } :: { hash := PyData.keyHash P (Str.ofString "QUOTE"), key := Value.str (Str.ofString "QUOTE") 334, val := Value.int 39 333 } :: { hash := PyData.keyHash P (Str.ofString "OPEN"), key := Value.str (Str.ofString "OPEN") 336, val := Value.int 40 335 } :: { hash := PyData.keyHash P (Str.ofString "STAR"), key := Value.str (Str.ofString "STAR") 338, val := Value.int 42 337 } :: { hash := PyData.keyHash P (Str.ofString "DOT"), key := Value.str (Str.ofString "DOT") 340, val := Value.int 46 339 } :: { hash := PyData.keyHash P (Str.ofString "SLASH"), key := Value.str (Str.ofString "SLASH") 342, val := Value.int 47 341 } :: { hash := PyData.keyHash P (Str.ofString "DIGIT_ZERO"), key := Value.str (Str.ofString "DIGIT_ZERO") 344, val := Value.int 48 343 } :: { hash := PyData.keyHash P (Str.ofString "BACKSLASH"), key := Value.str (Str.ofString "BACKSLASH") 346, val := Value.int 92 345 } :: { hash := PyData.keyHash P (Str.ofString "UNDERSCORE"), key := Value.str (Str.ofString "UNDERSCORE") 348, val := Value.int 95 347 } :: { hash := PyData.keyHash P (Str.ofString "BACK_QUOTE"), key := Value.str (Str.ofString "BACK_QUOTE") 350, val := Value.int 96 349 } :: { hash := PyData.keyHash P (Str.ofString "LETTER_B"), key := Value.str (Str.ofString "LETTER_B") 352, val := Value.int 98 351 } :: { hash := PyData.keyHash P (Str.ofString "LETTER_O"), key := Value.str (Str.ofString "LETTER_O") 354, val := Value.int 111 353 } :: { hash := PyData.keyHash P (Str.ofString "LETTER_X"), key := Value.str (Str.ofString "LETTER_X") 356, val := Value.int 120 355 } :: { hash := PyData.keyHash P (Str.ofString "simple_escape"), key := Value.str (Str.ofString "simple_escape") 365, val := Value.ref 126 } :: { hash := PyData.keyHash P (Str.ofString "numeral_base"), key := Value.str (Str.ofString "numeral_base") 372, val := Value.ref 133 } :: { hash := PyData.keyHash P (Str.ofString "Tokenizer"), key := Value.str (Str.ofString "Tokenizer") 576, val := Value.ref 270 } :: { hash := PyData.keyHash P (Str.ofString "read_number"), key := Value.str (Str.ofString "read_number") 587, val := Value.ref 281 } :: { hash := PyData.keyHash P (Str.ofString "law"), key := Value.str (Str.ofString "law") 595, val := Value.ref 286 } :: [])) 45 }) ::
(nat_lit 15, { cls := Value.type "tuple", data := Data.seq #[] }) ::
(nat_lit 17, { cls := Value.type "tuple", data := Data.seq #[Value.str (Str.ofString "k") 190] }) ::
(nat_lit 18, { cls := Value.type "tuple", data := Data.seq #[] }) ::
(nat_lit 20, { cls := Value.type "code", data := Data.fields #[Value.str (Str.ofString "_wall") 187, Value.str (Str.ofString "_wall") 188, Value.str (Str.ofString "/claim/cut.py") 189, Value.int 1 0, Value.int 1 0, Value.int 0 0, Value.int 0 0, Value.int 3 0, Value.ref 15, Value.bool true, Value.int 181 0, Value.ref 16, Value.none, Value.ref 17, Value.ref 18, Value.ref 19, Value.int 191 0, Value.int 1 0, Value.str (Str.ofString "/claim/cut.py") 192] }) ::
(nat_lit 21, { cls := Value.type "function", data := Data.func { name := Str.ofString "_wall", qualname := Str.ofString "_wall", params := hd.s0a, body := (.stmts hd.s0b), scope := hd.s0c, globals := 3, closure := [], defaults := Value.none, kwdefaults := Value.none, pyModule := Value.str (Str.ofString "__main__") 164, code := Value.ref 20 } }) ::
(nat_lit 22, { cls := Value.type "tuple", data := Data.seq #[Value.type "Exception"] }) ::
(nat_lit 29, { cls := Value.type "tuple", data := Data.seq #[] }) ::
(nat_lit 30, { cls := Value.type "dict", data := Data.dict (List.toArray ({ hash := PyData.keyHash P (Str.ofString "__module__"), key := Value.str (Str.ofString "__module__") 203, val := Value.str (Str.ofString "clausemill.symbols") 194 } :: { hash := PyData.keyHash P (Str.ofString "__firstlineno__"), key := Value.str (Str.ofString "__firstlineno__") 207, val := Value.int 5 206 } :: { hash := PyData.keyHash P (Str.ofString "__static_attributes__"), key := Value.str (Str.ofString "__static_attributes__") 208, val := Value.ref 29 } :: { hash := PyData.keyHash P (Str.ofString "__weakref__"), key := Value.str (Str.ofString "__weakref__") 210, val := Value.ref 32 } :: { hash := PyData.keyHash P (Str.ofString "__doc__"), key := Value.str (Str.ofString "__doc__") 211, val := Value.none } :: [])) 3 }) ::
(nat_lit 31, { cls := Value.type "type", data := Data.cls { name := Str.ofString "ClausemillError", bases := [Value.type "Exception"], mro := [Value.ref 31, Value.type "Exception", Value.type "BaseException", Value.type "object"], ns := 30, qualname := Str.ofString "ClausemillError", subclasses := [Value.ref 51] }, slots := #[some (Value.ref 22), none, some (Value.str (Str.ofString "ClausemillError") 196), some (Value.str (Str.ofString "ClausemillError") 204), some (Value.builtin "Exception.__new__"), some (Value.bool true)] }) ::
(nat_lit 32, { cls := Value.type "getset_descriptor", data := Data.fields #[Value.str (Str.ofString "__weakref__") 209, Value.ref 31, Value.builtin "ExceptionGroup.__weakref__", Value.none] }) ::
(nat_lit 35, { cls := Value.type "tuple", data := Data.seq #[Value.ref 31] }) ::
(nat_lit 42, { cls := Value.type "tuple", data := Data.seq #[] }) ::
(nat_lit 44, { cls := Value.type "tuple", data := Data.seq #[Value.str (Str.ofString "self") 231, Value.str (Str.ofString "kind") 232, Value.str (Str.ofString "at") 233, Value.str (Str.ofString "row") 234, Value.str (Str.ofString "column") 235] }) ::
(nat_lit 45, { cls := Value.type "tuple", data := Data.seq #[] }) ::
(nat_lit 47, { cls := Value.type "code", data := Data.fields #[Value.str (Str.ofString "__init__") 228, Value.str (Str.ofString "SyntaxFault.__init__") 229, Value.str (Str.ofString "/claim/cut.py") 230, Value.int 9 0, Value.int 5 0, Value.int 0 0, Value.int 0 0, Value.int 3 0, Value.ref 42, Value.bool true, Value.int 181 0, Value.ref 43, Value.none, Value.ref 44, Value.ref 45, Value.ref 46, Value.int 236 0, Value.int 9 0, Value.str (Str.ofString "/claim/cut.py") 237] }) ::
(nat_lit 48, { cls := Value.type "function", data := Data.func { name := Str.ofString "__init__", qualname := Str.ofString "SyntaxFault.__init__", params := hd.s3m0a, body := (.stmts hd.s3m0b), scope := hd.s3m0c, globals := 3, closure := [], defaults := Value.none, kwdefaults := Value.none, pyModule := Value.str (Str.ofString "clausemill.symbols") 194, code := Value.ref 47 } }) ::
(nat_lit 49, { cls := Value.type "tuple", data := Data.seq #[Value.str (Str.ofString "at") 239, Value.str (Str.ofString "column") 240, Value.str (Str.ofString "kind") 241, Value.str (Str.ofString "row") 242] }) ::
(nat_lit 50, { cls := Value.type "dict", data := Data.dict (List.toArray ({ hash := PyData.keyHash P (Str.ofString "__module__"), key := Value.str (Str.ofString "__module__") 223, val := Value.str (Str.ofString "clausemill.symbols") 194 } :: { hash := PyData.keyHash P (Str.ofString "__firstlineno__"), key := Value.str (Str.ofString "__firstlineno__") 227, val := Value.int 7 226 } :: { hash := PyData.keyHash P (Str.ofString "__init__"), key := Value.str (Str.ofString "__init__") 238, val := Value.ref 48 } :: { hash := PyData.keyHash P (Str.ofString "__static_attributes__"), key := Value.str (Str.ofString "__static_attributes__") 243, val := Value.ref 49 } :: { hash := PyData.keyHash P (Str.ofString "__doc__"), key := Value.str (Str.ofString "__doc__") 244, val := Value.none } :: [])) 2 }) ::
(nat_lit 51, { cls := Value.type "type", data := Data.cls { name := Str.ofString "SyntaxFault", bases := [Value.ref 31], mro := [Value.ref 51, Value.ref 31, Value.type "Exception", Value.type "BaseException", Value.type "object"], ns := 50, qualname := Str.ofString "SyntaxFault" }, slots := #[some (Value.ref 35), none, some (Value.str (Str.ofString "SyntaxFault") 216), some (Value.str (Str.ofString "SyntaxFault") 224), some (Value.builtin "Exception.__new__"), some (Value.bool true)] }) ::
(nat_lit 54, { cls := Value.type "tuple", data := Data.seq #[] }) ::
(nat_lit 56, { cls := Value.type "tuple", data := Data.seq #[Value.str (Str.ofString "code") 254] }) ::
(nat_lit 57, { cls := Value.type "tuple", data := Data.seq #[] }) ::
(nat_lit 59, { cls := Value.type "code", data := Data.fields #[Value.str (Str.ofString "is_layout") 251, Value.str (Str.ofString "is_layout") 252, Value.str (Str.ofString "/claim/cut.py") 253, Value.int 16 0, Value.int 1 0, Value.int 0 0, Value.int 0 0, Value.int 3 0, Value.ref 54, Value.bool true, Value.int 181 0, Value.ref 55, Value.none, Value.ref 56, Value.ref 57, Value.ref 58, Value.int 255 0, Value.int 16 0, Value.str (Str.ofString "/claim/cut.py") 256] }) ::
(nat_lit 60, { cls := Value.type "function", data := Data.func { name := Str.ofString "is_layout", qualname := Str.ofString "is_layout", params := hd.s6a, body := (.stmts hd.s6b), scope := hd.s6c, globals := 3, closure := [], defaults := Value.none, kwdefaults := Value.none, pyModule := Value.str (Str.ofString "clausemill.chars") 247, code := Value.ref 59 } }) ::
(nat_lit 61, { cls := Value.type "tuple", data := Data.seq #[] }) ::
(nat_lit 63, { cls := Value.type "tuple", data := Data.seq #[Value.str (Str.ofString "code") 261] }) ::
(nat_lit 64, { cls := Value.type "tuple", data := Data.seq #[] }) ::
(nat_lit 66, { cls := Value.type "code", data := Data.fields #[Value.str (Str.ofString "is_digit") 258, Value.str (Str.ofString "is_digit") 259, Value.str (Str.ofString "/claim/cut.py") 260, Value.int 18 0, Value.int 1 0, Value.int 0 0, Value.int 0 0, Value.int 3 0, Value.ref 61, Value.bool true, Value.int 181 0, Value.ref 62, Value.none, Value.ref 63, Value.ref 64, Value.ref 65, Value.int 262 0, Value.int 18 0, Value.str (Str.ofString "/claim/cut.py") 263] }) ::
(nat_lit 67, { cls := Value.type "function", data := Data.func { name := Str.ofString "is_digit", qualname := Str.ofString "is_digit", params := hd.s7a, body := (.stmts hd.s7b), scope := hd.s7c, globals := 3, closure := [], defaults := Value.none, kwdefaults := Value.none, pyModule := Value.str (Str.ofString "clausemill.chars") 247, code := Value.ref 66 } }) ::
(nat_lit 68, { cls := Value.type "tuple", data := Data.seq #[] }) ::
(nat_lit 70, { cls := Value.type "tuple", data := Data.seq #[Value.str (Str.ofString "code") 268] }) ::
(nat_lit 71, { cls := Value.type "tuple", data := Data.seq #[] }) ::
(nat_lit 73, { cls := Value.type "code", data := Data.fields #[Value.str (Str.ofString "is_small") 265, Value.str (Str.ofString "is_small") 266, Value.str (Str.ofString "/claim/cut.py") 267, Value.int 20 0, Value.int 1 0, Value.int 0 0, Value.int 0 0, Value.int 3 0, Value.ref 68, Value.bool true, Value.int 181 0, Value.ref 69, Value.none, Value.ref 70, Value.ref 71, Value.ref 72, Value.int 269 0, Value.int 20 0, Value.str (Str.ofString "/claim/cut.py") 270] }) ::
(nat_lit 74, { cls := Value.type "function", data := Data.func { name := Str.ofString "is_small", qualname := Str.ofString "is_small", params := hd.s8a, body := (.stmts hd.s8b), scope := hd.s8c, globals := 3, closure := [], defaults := Value.none, kwdefaults := Value.none, pyModule := Value.str (Str.ofString "clausemill.chars") 247, code := Value.ref 73 } }) ::
(nat_lit 75, { cls := Value.type "tuple", data := Data.seq #[] }) ::
(nat_lit 77, { cls := Value.type "tuple", data := Data.seq #[Value.str (Str.ofString "code") 275] }) ::
(nat_lit 78, { cls := Value.type "tuple", data := Data.seq #[] }) ::
(nat_lit 80, { cls := Value.type "code", data := Data.fields #[Value.str (Str.ofString "is_capital") 272, Value.str (Str.ofString "is_capital") 273, Value.str (Str.ofString "/claim/cut.py") 274, Value.int 22 0, Value.int 1 0, Value.int 0 0, Value.int 0 0, Value.int 3 0, Value.ref 75, Value.bool true, Value.int 181 0, Value.ref 76, Value.none, Value.ref 77, Value.ref 78, Value.ref 79, Value.int 276 0, Value.int 22 0, Value.str (Str.ofString "/claim/cut.py") 277] }) ::
(nat_lit 81, { cls := Value.type "function", data := Data.func { name := Str.ofString "is_capital", qualname := Str.ofString "is_capital", params := hd.s9a, body := (.stmts hd.s9b), scope := hd.s9c, globals := 3, closure := [], defaults := Value.none, kwdefaults := Value.none, pyModule := Value.str (Str.ofString "clausemill.chars") 247, code := Value.ref 80 } }) ::
(nat_lit 82, { cls := Value.type "tuple", data := Data.seq #[] }) ::
(nat_lit 84, { cls := Value.type "tuple", data := Data.seq #[Value.str (Str.ofString "code") 282] }) ::
(nat_lit 85, { cls := Value.type "tuple", data := Data.seq #[] }) ::
(nat_lit 87, { cls := Value.type "code", data := Data.fields #[Value.str (Str.ofString "is_alnum") 279, Value.str (Str.ofString "is_alnum") 280, Value.str (Str.ofString "/claim/cut.py") 281, Value.int 24 0, Value.int 1 0, Value.int 0 0, Value.int 0 0, Value.int 3 0, Value.ref 82, Value.bool true, Value.int 181 0, Value.ref 83, Value.none, Value.ref 84, Value.ref 85, Value.ref 86, Value.int 283 0, Value.int 24 0, Value.str (Str.ofString "/claim/cut.py") 284] }) ::
(nat_lit 88, { cls := Value.type "function", data := Data.func { name := Str.ofString "is_alnum", qualname := Str.ofString "is_alnum", params := hd.s10a, body := (.stmts hd.s10b), scope := hd.s10c, globals := 3, closure := [], defaults := Value.none, kwdefaults := Value.none, pyModule := Value.str (Str.ofString "clausemill.chars") 247, code := Value.ref 87 } }) ::
(nat_lit 89, { cls := Value.type "tuple", data := Data.seq #[] }) ::
(nat_lit 91, { cls := Value.type "tuple", data := Data.seq #[Value.str (Str.ofString "code") 289] }) ::
(nat_lit 92, { cls := Value.type "tuple", data := Data.seq #[] }) ::
(nat_lit 94, { cls := Value.type "code", data := Data.fields #[Value.str (Str.ofString "is_symbol") 286, Value.str (Str.ofString "is_symbol") 287, Value.str (Str.ofString "/claim/cut.py") 288, Value.int 26 0, Value.int 1 0, Value.int 0 0, Value.int 0 0, Value.int 3 0, Value.ref 89, Value.bool true, Value.int 181 0, Value.ref 90, Value.none, Value.ref 91, Value.ref 92, Value.ref 93, Value.int 290 0, Value.int 26 0, Value.str (Str.ofString "/claim/cut.py") 291] }) ::
(nat_lit 95, { cls := Value.type "function", data := Data.func { name := Str.ofString "is_symbol", qualname := Str.ofString "is_symbol", params := hd.s11a, body := (.stmts hd.s11b), scope := hd.s11c, globals := 3, closure := [], defaults := Value.none, kwdefaults := Value.none, pyModule := Value.str (Str.ofString "clausemill.chars") 247, code := Value.ref 94 } }) ::
(nat_lit 96, { cls := Value.type "tuple", data := Data.seq #[] }) ::
(nat_lit 98, { cls := Value.type "tuple", data := Data.seq #[Value.str (Str.ofString "code") 296] }) ::
(nat_lit 99, { cls := Value.type "tuple", data := Data.seq #[] }) ::
(nat_lit 101, { cls := Value.type "code", data := Data.fields #[Value.str (Str.ofString "is_quotable") 293, Value.str (Str.ofString "is_quotable") 294, Value.str (Str.ofString "/claim/cut.py") 295, Value.int 28 0, Value.int 1 0, Value.int 0 0, Value.int 0 0, Value.int 3 0, Value.ref 96, Value.bool true, Value.int 181 0, Value.ref 97, Value.none, Value.ref 98, Value.ref 99, Value.ref 100, Value.int 297 0, Value.int 28 0, Value.str (Str.ofString "/claim/cut.py") 298] }) ::
(nat_lit 102, { cls := Value.type "function", data := Data.func { name := Str.ofString "is_quotable", qualname := Str.ofString "is_quotable", params := hd.s12a, body := (.stmts hd.s12b), scope := hd.s12c, globals := 3, closure := [], defaults := Value.none, kwdefaults := Value.none, pyModule := Value.str (Str.ofString "clausemill.chars") 247, code := Value.ref 101 } }) ::
(nat_lit 103, { cls := Value.type "tuple", data := Data.seq #[] }) ::
(nat_lit 105, { cls := Value.type "tuple", data := Data.seq #[Value.str (Str.ofString "code") 303] }) ::
(nat_lit 106, { cls := Value.type "tuple", data := Data.seq #[] }) ::
(nat_lit 108, { cls := Value.type "code", data := Data.fields #[Value.str (Str.ofString "digit_value") 300, Value.str (Str.ofString "digit_value") 301, Value.str (Str.ofString "/claim/cut.py") 302, Value.int 30 0, Value.int 1 0, Value.int 0 0, Value.int 0 0, Value.int 3 0, Value.ref 103, Value.bool true, Value.int 181 0, Value.ref 104, Value.none, Value.ref 105, Value.ref 106, Value.ref 107, Value.int 304 0, Value.int 30 0, Value.str (Str.ofString "/claim/cut.py") 305] }) ::
(nat_lit 109, { cls := Value.type "function", data := Data.func { name := Str.ofString "digit_value", qualname := Str.ofString "digit_value", params := hd.s13a, body := (.stmts hd.s13b), scope := hd.s13c, globals := 3, closure := [], defaults := Value.none, kwdefaults := Value.none, pyModule := Value.str (Str.ofString "clausemill.chars") 247, code := Value.ref 108 } }) ::
(nat_lit 110, { cls := Value.type "tuple", data := Data.seq #[] }) ::
(nat_lit 113, { cls := Value.type "code", data := Data.fields #[Value.str (Str.ofString "text_codes") 307, Value.str (Str.ofString "text_codes") 308, Value.str (Str.ofString "/claim/cut.py") 309, Value.int 38 0, Value.int 1 0, Value.int 0 0, Value.int 0 0, Value.int 3 0, Value.ref 110, Value.bool true, Value.int 181 0, Value.ref 111, Value.none, Value.none, Value.none, Value.ref 112, Value.int 310 0, Value.int 38 0, Value.str (Str.ofString "/claim/cut.py") 311] }) ::
(nat_lit 114, { cls := Value.type "function", data := Data.func { name := Str.ofString "text_codes", qualname := Str.ofString "text_codes", params := hd.s14a, body := (.stmts hd.s14b), scope := hd.s14c, globals := 3, closure := [], defaults := Value.none, kwdefaults := Value.none, pyModule := Value.str (Str.ofString "clausemill.chars") 247, code := Value.ref 113 } }) ::
(nat_lit 115, { cls := Value.type "tuple", data := Data.seq #[] }) ::
(nat_lit 118, { cls := Value.type "code", data := Data.fields #[Value.str (Str.ofString "codes_text") 313, Value.str (Str.ofString "codes_text") 314, Value.str (Str.ofString "/claim/cut.py") 315, Value.int 40 0, Value.int 1 0, Value.int 0 0, Value.int 0 0, Value.int 3 0, Value.ref 115, Value.bool true, Value.int 181 0, Value.ref 116, Value.none, Value.none, Value.none, Value.ref 117, Value.int 316 0, Value.int 40 0, Value.str (Str.ofString "/claim/cut.py") 317] }) ::
(nat_lit 119, { cls := Value.type "function", data := Data.func { name := Str.ofString "codes_text", qualname := Str.ofString "codes_text", params := hd.s15a, body := (.stmts hd.s15b), scope := hd.s15c, globals := 3, closure := [], defaults := Value.none, kwdefaults := Value.none, pyModule := Value.str (Str.ofString "clausemill.chars") 247, code := Value.ref 118 } }) ::
(nat_lit 120, { cls := Value.type "tuple", data := Data.seq #[] }) ::
(nat_lit 122, { cls := Value.type "tuple", data := Data.seq #[Value.str (Str.ofString "code") 360, Value.str (Str.ofString "char") 361, Value.str (Str.ofString "place") 362] }) ::
(nat_lit 123, { cls := Value.type "tuple", data := Data.seq #[] }) ::
(nat_lit 125, { cls := Value.type "code", data := Data.fields #[Value.str (Str.ofString "simple_escape") 357, Value.str (Str.ofString "simple_escape") 358, Value.str (Str.ofString "/claim/cut.py") 359, Value.int 60 0, Value.int 1 0, Value.int 0 0, Value.int 0 0, Value.int 3 0, Value.ref 120, Value.bool true, Value.int 181 0, Value.ref 121, Value.none, Value.ref 122, Value.ref 123, Value.ref 124, Value.int 363 0, Value.int 60 0, Value.str (Str.ofString "/claim/cut.py") 364] }) ::
(nat_lit 126, { cls := Value.type "function", data := Data.func { name := Str.ofString "simple_escape", qualname := Str.ofString "simple_escape", params := hd.s34a, body := (.stmts hd.s34b), scope := hd.s34c, globals := 3, closure := [], defaults := Value.none, kwdefaults := Value.none, pyModule := Value.str (Str.ofString "clausemill.tokens") 319, code := Value.ref 125 } }) ::
(nat_lit 127, { cls := Value.type "tuple", data := Data.seq #[] }) ::
(nat_lit 129, { cls := Value.type "tuple", data := Data.seq #[Value.str (Str.ofString "code") 369] }) ::
(nat_lit 130, { cls := Value.type "tuple", data := Data.seq #[] }) ::
(nat_lit 132, { cls := Value.type "code", data := Data.fields #[Value.str (Str.ofString "numeral_base") 366, Value.str (Str.ofString "numeral_base") 367, Value.str (Str.ofString "/claim/cut.py") 368, Value.int 68 0, Value.int 1 0, Value.int 0 0, Value.int 0 0, Value.int 3 0, Value.ref 127, Value.bool true, Value.int 181 0, Value.ref 128, Value.none, Value.ref 129, Value.ref 130, Value.ref 131, Value.int 370 0, Value.int 68 0, Value.str (Str.ofString "/claim/cut.py") 371] }) ::
(nat_lit 133, { cls := Value.type "function", data := Data.func { name := Str.ofString "numeral_base", qualname := Str.ofString "numeral_base", params := hd.s35a, body := (.stmts hd.s35b), scope := hd.s35c, globals := 3, closure := [], defaults := Value.none, kwdefaults := Value.none, pyModule := Value.str (Str.ofString "clausemill.tokens") 319, code := Value.ref 132 } }) ::
(nat_lit 141, { cls := Value.type "tuple", data := Data.seq #[Value.int 0 385] }) ::
(nat_lit 142, { cls := Value.type "tuple", data := Data.seq #[] }) ::
(nat_lit 144, { cls := Value.type "tuple", data := Data.seq #[Value.str (Str.ofString "self") 389, Value.str (Str.ofString "codes") 390, Value.str (Str.ofString "at") 391] }) ::
(nat_lit 145, { cls := Value.type "tuple", data := Data.seq #[] }) ::
(nat_lit 147, { cls := Value.type "code", data := Data.fields #[Value.str (Str.ofString "__init__") 386, Value.str (Str.ofString "Tokenizer.__init__") 387, Value.str (Str.ofString "/claim/cut.py") 388, Value.int 78 0, Value.int 3 0, Value.int 0 0, Value.int 0 0, Value.int 3 0, Value.ref 142, Value.bool true, Value.int 181 0, Value.ref 143, Value.none, Value.ref 144, Value.ref 145, Value.ref 146, Value.int 392 0, Value.int 78 0, Value.str (Str.ofString "/claim/cut.py") 393] }) ::
(nat_lit 148, { cls := Value.type "function", data := Data.func { name := Str.ofString "__init__", qualname := Str.ofString "Tokenizer.__init__", params := hd.s36m0a, body := (.stmts hd.s36m0b), scope := hd.s36m0c, globals := 3, closure := [], defaults := Value.ref 141, kwdefaults := Value.none, pyModule := Value.str (Str.ofString "clausemill.tokens") 319, code := Value.ref 147 } }) ::
(nat_lit 149, { cls := Value.type "tuple", data := Data.seq #[] }) ::
(nat_lit 151, { cls := Value.type "tuple", data := Data.seq #[Value.str (Str.ofString "self") 398, Value.str (Str.ofString "index") 399, Value.str (Str.ofString "code") 400] }) ::
(nat_lit 152, { cls := Value.type "tuple", data := Data.seq #[] }) ::
(nat_lit 154, { cls := Value.type "code", data := Data.fields #[Value.str (Str.ofString "code_at") 395, Value.str (Str.ofString "Tokenizer.code_at") 396, Value.str (Str.ofString "/claim/cut.py") 397, Value.int 83 0, Value.int 2 0, Value.int 0 0, Value.int 0 0, Value.int 3 0, Value.ref 149, Value.bool true, Value.int 181 0, Value.ref 150, Value.none, Value.ref 151, Value.ref 152, Value.ref 153, Value.int 401 0, Value.int 83 0, Value.str (Str.ofString "/claim/cut.py") 402] }) ::
(nat_lit 155, { cls := Value.type "function", data := Data.func { name := Str.ofString "code_at", qualname := Str.ofString "Tokenizer.code_at", params := hd.s36m1a, body := (.stmts hd.s36m1b), scope := hd.s36m1c, globals := 3, closure := [], defaults := Value.none, kwdefaults := Value.none, pyModule := Value.str (Str.ofString "clausemill.tokens") 319, code := Value.ref 154 } }) ::
(nat_lit 156, { cls := Value.type "tuple", data := Data.seq #[] }) ::
(nat_lit 158, { cls := Value.type "tuple", data := Data.seq #[Value.str (Str.ofString "self") 407, Value.str (Str.ofString "at") 408, Value.str (Str.ofString "row") 409, Value.str (Str.ofString "column") 410, Value.str (Str.ofString "index") 411] }) ::
(nat_lit 159, { cls := Value.type "tuple", data := Data.seq #[] }) ::
(nat_lit 161, { cls := Value.type "code", data := Data.fields #[Value.str (Str.ofString "place") 404, Value.str (Str.ofString "Tokenizer.place") 405, Value.str (Str.ofString "/claim/cut.py") 406, Value.int 91 0, Value.int 2 0, Value.int 0 0, Value.int 0 0, Value.int 3 0, Value.ref 156, Value.bool true, Value.int 181 0, Value.ref 157, Value.none, Value.ref 158, Value.ref 159, Value.ref 160, Value.int 412 0, Value.int 91 0, Value.str (Str.ofString "/claim/cut.py") 413] }) ::
(nat_lit 162, { cls := Value.type "function", data := Data.func { name := Str.ofString "place", qualname := Str.ofString "Tokenizer.place", params := hd.s36m2a, body := (.stmts hd.s36m2b), scope := hd.s36m2c, globals := 3, closure := [], defaults := Value.none, kwdefaults := Value.none, pyModule := Value.str (Str.ofString "clausemill.tokens") 319, code := Value.ref 161 } }) ::
(nat_lit 163, { cls := Value.type "tuple", data := Data.seq #[] }) ::
(nat_lit 165, { cls := Value.type "tuple", data := Data.seq #[Value.str (Str.ofString "self") 418, Value.str (Str.ofString "kind") 419, Value.str (Str.ofString "at") 420, Value.str (Str.ofString "row") 421, Value.str (Str.ofString "column") 422] }) ::
(nat_lit 166, { cls := Value.type "tuple", data := Data.seq #[] }) ::
(nat_lit 168, { cls := Value.type "code", data := Data.fields #[Value.str (Str.ofString "fault") 415, Value.str (Str.ofString "Tokenizer.fault") 416, Value.str (Str.ofString "/claim/cut.py") 417, Value.int 104 0, Value.int 3 0, Value.int 0 0, Value.int 0 0, Value.int 3 0, Value.ref 163, Value.bool true, Value.int 181 0, Value.ref 164, Value.none, Value.ref 165, Value.ref 166, Value.ref 167, Value.int 423 0, Value.int 104 0, Value.str (Str.ofString "/claim/cut.py") 424] }) ::
(nat_lit 169, { cls := Value.type "function", data := Data.func { name := Str.ofString "fault", qualname := Str.ofString "Tokenizer.fault", params := hd.s36m3a, body := (.stmts hd.s36m3b), scope := hd.s36m3c, globals := 3, closure := [], defaults := Value.none, kwdefaults := Value.none, pyModule := Value.str (Str.ofString "clausemill.tokens") 319, code := Value.ref 168 } }) ::
(nat_lit 170, { cls := Value.type "tuple", data := Data.seq #[] }) ::
(nat_lit 172, { cls := Value.type "tuple", data := Data.seq #[Value.str (Str.ofString "self") 429, Value.str (Str.ofString "begun") 430, Value.str (Str.ofString "at") 431, Value.str (Str.ofString "code") 432, Value.str (Str.ofString "char") 433] }) ::
(nat_lit 173, { cls := Value.type "tuple", data := Data.seq #[] }) ::
(nat_lit 175, { cls := Value.type "code", data := Data.fields #[Value.str (Str.ofString "next") 426, Value.str (Str.ofString "Tokenizer.next") 427, Value.str (Str.ofString "/claim/cut.py") 428, Value.int 108 0, Value.int 1 0, Value.int 0 0, Value.int 0 0, Value.int 3 0, Value.ref 170, Value.bool true, Value.int 181 0, Value.ref 171, Value.none, Value.ref 172, Value.ref 173, Value.ref 174, Value.int 434 0, Value.int 108 0, Value.str (Str.ofString "/claim/cut.py") 435] }) ::
(nat_lit 176, { cls := Value.type "function", data := Data.func { name := Str.ofString "next", qualname := Str.ofString "Tokenizer.next", params := hd.s36m4a, body := (.stmts hd.s36m4b), scope := hd.s36m4c, globals := 3, closure := [], defaults := Value.none, kwdefaults := Value.none, pyModule := Value.str (Str.ofString "clausemill.tokens") 319, code := Value.ref 175 } }) ::
(nat_lit 177, { cls := Value.type "tuple", data := Data.seq #[] }) ::
(nat_lit 179, { cls := Value.type "tuple", data := Data.seq #[Value.str (Str.ofString "self") 440] }) ::
(nat_lit 180, { cls := Value.type "tuple", data := Data.seq #[] }) ::
(nat_lit 182, { cls := Value.type "code", data := Data.fields #[Value.str (Str.ofString "skip_clause") 437, Value.str (Str.ofString "Tokenizer.skip_clause") 438, Value.str (Str.ofString "/claim/cut.py") 439, Value.int 142 0, Value.int 1 0, Value.int 0 0, Value.int 0 0, Value.int 3 0, Value.ref 177, Value.bool true, Value.int 181 0, Value.ref 178, Value.none, Value.ref 179, Value.ref 180, Value.ref 181, Value.int 441 0, Value.int 142 0, Value.str (Str.ofString "/claim/cut.py") 442] }) ::
(nat_lit 183, { cls := Value.type "function", data := Data.func { name := Str.ofString "skip_clause", qualname := Str.ofString "Tokenizer.skip_clause", params := hd.s36m5a, body := (.stmts hd.s36m5b), scope := hd.s36m5c, globals := 3, closure := [], defaults := Value.none, kwdefaults := Value.none, pyModule := Value.str (Str.ofString "clausemill.tokens") 319, code := Value.ref 182 } }) ::
(nat_lit 184, { cls := Value.type "tuple", data := Data.seq #[] }) ::
(nat_lit 186, { cls := Value.type "tuple", data := Data.seq #[Value.str (Str.ofString "self") 447, Value.str (Str.ofString "code") 448] }) ::
(nat_lit 187, { cls := Value.type "tuple", data := Data.seq #[] }) ::
(nat_lit 189, { cls := Value.type "code", data := Data.fields #[Value.str (Str.ofString "skip_layout") 444, Value.str (Str.ofString "Tokenizer.skip_layout") 445, Value.str (Str.ofString "/claim/cut.py") 446, Value.int 145 0, Value.int 1 0, Value.int 0 0, Value.int 0 0, Value.int 3 0, Value.ref 184, Value.bool true, Value.int 181 0, Value.ref 185, Value.none, Value.ref 186, Value.ref 187, Value.ref 188, Value.int 449 0, Value.int 145 0, Value.str (Str.ofString "/claim/cut.py") 450] }) ::
(nat_lit 190, { cls := Value.type "function", data := Data.func { name := Str.ofString "skip_layout", qualname := Str.ofString "Tokenizer.skip_layout", params := hd.s36m6a, body := (.stmts hd.s36m6b), scope := hd.s36m6c, globals := 3, closure := [], defaults := Value.none, kwdefaults := Value.none, pyModule := Value.str (Str.ofString "clausemill.tokens") 319, code := Value.ref 189 } }) ::
(nat_lit 191, { cls := Value.type "tuple", data := Data.seq #[] }) ::
(nat_lit 193, { cls := Value.type "tuple", data := Data.seq #[Value.str (Str.ofString "self") 455, Value.str (Str.ofString "code") 456] }) ::
(nat_lit 194, { cls := Value.type "tuple", data := Data.seq #[] }) ::
(nat_lit 196, { cls := Value.type "code", data := Data.fields #[Value.str (Str.ofString "skip_row") 452, Value.str (Str.ofString "Tokenizer.skip_row") 453, Value.str (Str.ofString "/claim/cut.py") 454, Value.int 157 0, Value.int 1 0, Value.int 0 0, Value.int 0 0, Value.int 3 0, Value.ref 191, Value.bool true, Value.int 181 0, Value.ref 192, Value.none, Value.ref 193, Value.ref 194, Value.ref 195, Value.int 457 0, Value.int 157 0, Value.str (Str.ofString "/claim/cut.py") 458] }) ::
(nat_lit 197, { cls := Value.type "function", data := Data.func { name := Str.ofString "skip_row", qualname := Str.ofString "Tokenizer.skip_row", params := hd.s36m7a, body := (.stmts hd.s36m7b), scope := hd.s36m7c, globals := 3, closure := [], defaults := Value.none, kwdefaults := Value.none, pyModule := Value.str (Str.ofString "clausemill.tokens") 319, code := Value.ref 196 } }) ::
(nat_lit 198, { cls := Value.type "tuple", data := Data.seq #[] }) ::
(nat_lit 200, { cls := Value.type "tuple", data := Data.seq #[Value.str (Str.ofString "self") 463, Value.str (Str.ofString "begun") 464, Value.str (Str.ofString "code") 465] }) ::
(nat_lit 201, { cls := Value.type "tuple", data := Data.seq #[] }) ::
(nat_lit 203, { cls := Value.type "code", data := Data.fields #[Value.str (Str.ofString "skip_remark") 460, Value.str (Str.ofString "Tokenizer.skip_remark") 461, Value.str (Str.ofString "/claim/cut.py") 462, Value.int 164 0, Value.int 1 0, Value.int 0 0, Value.int 0 0, Value.int 3 0, Value.ref 198, Value.bool true, Value.int 181 0, Value.ref 199, Value.none, Value.ref 200, Value.ref 201, Value.ref 202, Value.int 466 0, Value.int 164 0, Value.str (Str.ofString "/claim/cut.py") 467] }) ::
(nat_lit 204, { cls := Value.type "function", data := Data.func { name := Str.ofString "skip_remark", qualname := Str.ofString "Tokenizer.skip_remark", params := hd.s36m8a, body := (.stmts hd.s36m8b), scope := hd.s36m8c, globals := 3, closure := [], defaults := Value.none, kwdefaults := Value.none, pyModule := Value.str (Str.ofString "clausemill.tokens") 319, code := Value.ref 203 } }) ::
(nat_lit 205, { cls := Value.type "tuple", data := Data.seq #[] }) ::
(nat_lit 207, { cls := Value.type "tuple", data := Data.seq #[Value.str (Str.ofString "self") 472, Value.str (Str.ofString "at") 473, Value.str (Str.ofString "end") 474] }) ::
(nat_lit 208, { cls := Value.type "tuple", data := Data.seq #[] }) ::
(nat_lit 210, { cls := Value.type "code", data := Data.fields #[Value.str (Str.ofString "word") 469, Value.str (Str.ofString "Tokenizer.word") 470, Value.str (Str.ofString "/claim/cut.py") 471, Value.int 176 0, Value.int 2 0, Value.int 0 0, Value.int 0 0, Value.int 3 0, Value.ref 205, Value.bool true, Value.int 181 0, Value.ref 206, Value.none, Value.ref 207, Value.ref 208, Value.ref 209, Value.int 475 0, Value.int 176 0, Value.str (Str.ofString "/claim/cut.py") 476] }) ::
(nat_lit 211, { cls := Value.type "function", data := Data.func { name := Str.ofString "word", qualname := Str.ofString "Tokenizer.word", params := hd.s36m9a, body := (.stmts hd.s36m9b), scope := hd.s36m9c, globals := 3, closure := [], defaults := Value.none, kwdefaults := Value.none, pyModule := Value.str (Str.ofString "clausemill.tokens") 319, code := Value.ref 210 } }) ::
(nat_lit 212, { cls := Value.type "tuple", data := Data.seq #[] }) ::
(nat_lit 214, { cls := Value.type "tuple", data := Data.seq #[Value.str (Str.ofString "self") 481, Value.str (Str.ofString "at") 482, Value.str (Str.ofString "end") 483] }) ::
(nat_lit 215, { cls := Value.type "tuple", data := Data.seq #[] }) ::
(nat_lit 217, { cls := Value.type "code", data := Data.fields #[Value.str (Str.ofString "symbol") 478, Value.str (Str.ofString "Tokenizer.symbol") 479, Value.str (Str.ofString "/claim/cut.py") 480, Value.int 183 0, Value.int 2 0, Value.int 0 0, Value.int 0 0, Value.int 3 0, Value.ref 212, Value.bool true, Value.int 181 0, Value.ref 213, Value.none, Value.ref 214, Value.ref 215, Value.ref 216, Value.int 484 0, Value.int 183 0, Value.str (Str.ofString "/claim/cut.py") 485] }) ::
(nat_lit 218, { cls := Value.type "function", data := Data.func { name := Str.ofString "symbol", qualname := Str.ofString "Tokenizer.symbol", params := hd.s36m10a, body := (.stmts hd.s36m10b), scope := hd.s36m10c, globals := 3, closure := [], defaults := Value.none, kwdefaults := Value.none, pyModule := Value.str (Str.ofString "clausemill.tokens") 319, code := Value.ref 217 } }) ::
(nat_lit 219, { cls := Value.type "tuple", data := Data.seq #[] }) ::
(nat_lit 221, { cls := Value.type "tuple", data := Data.seq #[Value.str (Str.ofString "self") 490, Value.str (Str.ofString "index") 491, Value.str (Str.ofString "code") 492] }) ::
(nat_lit 222, { cls := Value.type "tuple", data := Data.seq #[] }) ::
(nat_lit 224, { cls := Value.type "code", data := Data.fields #[Value.str (Str.ofString "ends_at") 487, Value.str (Str.ofString "Tokenizer.ends_at") 488, Value.str (Str.ofString "/claim/cut.py") 489, Value.int 193 0, Value.int 2 0, Value.int 0 0, Value.int 0 0, Value.int 3 0, Value.ref 219, Value.bool true, Value.int 181 0, Value.ref 220, Value.none, Value.ref 221, Value.ref 222, Value.ref 223, Value.int 493 0, Value.int 193 0, Value.str (Str.ofString "/claim/cut.py") 494] }) ::
(nat_lit 225, { cls := Value.type "function", data := Data.func { name := Str.ofString "ends_at", qualname := Str.ofString "Tokenizer.ends_at", params := hd.s36m11a, body := (.stmts hd.s36m11b), scope := hd.s36m11c, globals := 3, closure := [], defaults := Value.none, kwdefaults := Value.none, pyModule := Value.str (Str.ofString "clausemill.tokens") 319, code := Value.ref 224 } }) ::
(nat_lit 226, { cls := Value.type "tuple", data := Data.seq #[] }) ::
(nat_lit 228, { cls := Value.type "tuple", data := Data.seq #[Value.str (Str.ofString "self") 499, Value.str (Str.ofString "at") 500, Value.str (Str.ofString "mark") 501, Value.str (Str.ofString "base") 502, Value.str (Str.ofString "digit") 503, Value.str (Str.ofString "value") 504] }) ::
(nat_lit 229, { cls := Value.type "tuple", data := Data.seq #[] }) ::
(nat_lit 231, { cls := Value.type "code", data := Data.fields #[Value.str (Str.ofString "numeral") 496, Value.str (Str.ofString "Tokenizer.numeral") 497, Value.str (Str.ofString "/claim/cut.py") 498, Value.int 197 0, Value.int 2 0, Value.int 0 0, Value.int 0 0, Value.int 3 0, Value.ref 226, Value.bool true, Value.int 181 0, Value.ref 227, Value.none, Value.ref 228, Value.ref 229, Value.ref 230, Value.int 505 0, Value.int 197 0, Value.str (Str.ofString "/claim/cut.py") 506] }) ::
(nat_lit 232, { cls := Value.type "function", data := Data.func { name := Str.ofString "numeral", qualname := Str.ofString "Tokenizer.numeral", params := hd.s36m12a, body := (.stmts hd.s36m12b), scope := hd.s36m12c, globals := 3, closure := [], defaults := Value.none, kwdefaults := Value.none, pyModule := Value.str (Str.ofString "clausemill.tokens") 319, code := Value.ref 231 } }) ::
(nat_lit 233, { cls := Value.type "tuple", data := Data.seq #[] }) ::
(nat_lit 235, { cls := Value.type "tuple", data := Data.seq #[Value.str (Str.ofString "self") 511, Value.str (Str.ofString "index") 512, Value.str (Str.ofString "base") 513, Value.str (Str.ofString "value") 514, Value.str (Str.ofString "digit") 515] }) ::
(nat_lit 236, { cls := Value.type "tuple", data := Data.seq #[] }) ::
(nat_lit 238, { cls := Value.type "code", data := Data.fields #[Value.str (Str.ofString "digits") 508, Value.str (Str.ofString "Tokenizer.digits") 509, Value.str (Str.ofString "/claim/cut.py") 510, Value.int 212 0, Value.int 3 0, Value.int 0 0, Value.int 0 0, Value.int 3 0, Value.ref 233, Value.bool true, Value.int 181 0, Value.ref 234, Value.none, Value.ref 235, Value.ref 236, Value.ref 237, Value.int 516 0, Value.int 212 0, Value.str (Str.ofString "/claim/cut.py") 517] }) ::
(nat_lit 239, { cls := Value.type "function", data := Data.func { name := Str.ofString "digits", qualname := Str.ofString "Tokenizer.digits", params := hd.s36m13a, body := (.stmts hd.s36m13b), scope := hd.s36m13c, globals := 3, closure := [], defaults := Value.none, kwdefaults := Value.none, pyModule := Value.str (Str.ofString "clausemill.tokens") 319, code := Value.ref 238 } }) ::
(nat_lit 240, { cls := Value.type "tuple", data := Data.seq #[] }) ::
(nat_lit 242, { cls := Value.type "tuple", data := Data.seq #[Value.str (Str.ofString "self") 522, Value.str (Str.ofString "at") 523, Value.str (Str.ofString "code") 524, Value.str (Str.ofString "value") 525] }) ::
(nat_lit 243, { cls := Value.type "tuple", data := Data.seq #[] }) ::
(nat_lit 245, { cls := Value.type "code", data := Data.fields #[Value.str (Str.ofString "character") 519, Value.str (Str.ofString "Tokenizer.character") 520, Value.str (Str.ofString "/claim/cut.py") 521, Value.int 222 0, Value.int 2 0, Value.int 0 0, Value.int 0 0, Value.int 3 0, Value.ref 240, Value.bool true, Value.int 181 0, Value.ref 241, Value.none, Value.ref 242, Value.ref 243, Value.ref 244, Value.int 526 0, Value.int 222 0, Value.str (Str.ofString "/claim/cut.py") 527] }) ::
(nat_lit 246, { cls := Value.type "function", data := Data.func { name := Str.ofString "character", qualname := Str.ofString "Tokenizer.character", params := hd.s36m14a, body := (.stmts hd.s36m14b), scope := hd.s36m14c, globals := 3, closure := [], defaults := Value.none, kwdefaults := Value.none, pyModule := Value.str (Str.ofString "clausemill.tokens") 319, code := Value.ref 245 } }) ::
(nat_lit 247, { cls := Value.type "tuple", data := Data.seq #[] }) ::
(nat_lit 249, { cls := Value.type "tuple", data := Data.seq #[Value.str (Str.ofString "self") 532, Value.str (Str.ofString "begun") 533, Value.str (Str.ofString "quote") 534, Value.str (Str.ofString "codes") 535, Value.str (Str.ofString "at") 536, Value.str (Str.ofString "code") 537, Value.str (Str.ofString "value") 538] }) ::
(nat_lit 250, { cls := Value.type "tuple", data := Data.seq #[] }) ::
(nat_lit 252, { cls := Value.type "code", data := Data.fields #[Value.str (Str.ofString "quoted") 529, Value.str (Str.ofString "Tokenizer.quoted") 530, Value.str (Str.ofString "/claim/cut.py") 531, Value.int 243 0, Value.int 3 0, Value.int 0 0, Value.int 0 0, Value.int 3 0, Value.ref 247, Value.bool true, Value.int 181 0, Value.ref 248, Value.none, Value.ref 249, Value.ref 250, Value.ref 251, Value.int 539 0, Value.int 243 0, Value.str (Str.ofString "/claim/cut.py") 540] }) ::
(nat_lit 253, { cls := Value.type "function", data := Data.func { name := Str.ofString "quoted", qualname := Str.ofString "Tokenizer.quoted", params := hd.s36m15a, body := (.stmts hd.s36m15b), scope := hd.s36m15c, globals := 3, closure := [], defaults := Value.none, kwdefaults := Value.none, pyModule := Value.str (Str.ofString "clausemill.tokens") 319, code := Value.ref 252 } }) ::
(nat_lit 254, { cls := Value.type "tuple", data := Data.seq #[] }) ::
(nat_lit 256, { cls := Value.type "tuple", data := Data.seq #[Value.str (Str.ofString "self") 545, Value.str (Str.ofString "index") 546, Value.str (Str.ofString "code") 547, Value.str (Str.ofString "simple") 548, Value.str (Str.ofString "base") 549, Value.str (Str.ofString "begun") 550, Value.str (Str.ofString "value") 551, Value.str (Str.ofString "digit") 552] }) ::
(nat_lit 257, { cls := Value.type "tuple", data := Data.seq #[] }) ::
(nat_lit 259, { cls := Value.type "code", data := Data.fields #[Value.str (Str.ofString "escape") 542, Value.str (Str.ofString "Tokenizer.escape") 543, Value.str (Str.ofString "/claim/cut.py") 544, Value.int 272 0, Value.int 1 0, Value.int 0 0, Value.int 0 0, Value.int 3 0, Value.ref 254, Value.bool true, Value.int 181 0, Value.ref 255, Value.none, Value.ref 256, Value.ref 257, Value.ref 258, Value.int 553 0, Value.int 272 0, Value.str (Str.ofString "/claim/cut.py") 554] }) ::
(nat_lit 260, { cls := Value.type "function", data := Data.func { name := Str.ofString "escape", qualname := Str.ofString "Tokenizer.escape", params := hd.s36m16a, body := (.stmts hd.s36m16b), scope := hd.s36m16c, globals := 3, closure := [], defaults := Value.none, kwdefaults := Value.none, pyModule := Value.str (Str.ofString "clausemill.tokens") 319, code := Value.ref 259 } }) ::
(nat_lit 261, { cls := Value.type "tuple", data := Data.seq #[] }) ::
(nat_lit 263, { cls := Value.type "tuple", data := Data.seq #[Value.str (Str.ofString "self") 559, Value.str (Str.ofString "quote") 560, Value.str (Str.ofString "code") 561, Value.str (Str.ofString "follower") 562] }) ::
(nat_lit 264, { cls := Value.type "tuple", data := Data.seq #[] }) ::
(nat_lit 266, { cls := Value.type "code", data := Data.fields #[Value.str (Str.ofString "abandon") 556, Value.str (Str.ofString "Tokenizer.abandon") 557, Value.str (Str.ofString "/claim/cut.py") 558, Value.int 297 0, Value.int 2 0, Value.int 0 0, Value.int 0 0, Value.int 3 0, Value.ref 261, Value.bool true, Value.int 181 0, Value.ref 262, Value.none, Value.ref 263, Value.ref 264, Value.ref 265, Value.int 563 0, Value.int 297 0, Value.str (Str.ofString "/claim/cut.py") 564] }) ::
(nat_lit 267, { cls := Value.type "function", data := Data.func { name := Str.ofString "abandon", qualname := Str.ofString "Tokenizer.abandon", params := hd.s36m17a, body := (.stmts hd.s36m17b), scope := hd.s36m17c, globals := 3, closure := [], defaults := Value.none, kwdefaults := Value.none, pyModule := Value.str (Str.ofString "clausemill.tokens") 319, code := Value.ref 266 } }) ::
(nat_lit 268, { cls := Value.type "tuple", data := Data.seq #[Value.str (Str.ofString "at") 566, Value.str (Str.ofString "codes") 567, Value.str (Str.ofString "origin") 568] }) ::
(nat_lit 269, { cls := Value.type "dict", data := Data.dict (List.toArray ({ hash := PyData.keyHash P (Str.ofString "__module__"), key := Value.str (Str.ofString "__module__") 380, val := Value.str (Str.ofString "clausemill.tokens") 319 } :: { hash := PyData.keyHash P (Str.ofString "__firstlineno__"), key := Value.str (Str.ofString "__firstlineno__") 384, val := Value.int 76 383 } :: { hash := PyData.keyHash P (Str.ofString "__init__"), key := Value.str (Str.ofString "__init__") 394, val := Value.ref 148 } :: { hash := PyData.keyHash P (Str.ofString "code_at"), key := Value.str (Str.ofString "code_at") 403, val := Value.ref 155 } :: { hash := PyData.keyHash P (Str.ofString "place"), key := Value.str (Str.ofString "place") 414, val := Value.ref 162 } :: { hash := PyData.keyHash P (Str.ofString "fault"), key := Value.str (Str.ofString "fault") 425, val := Value.ref 169 } :: { hash := PyData.keyHash P (Str.ofString "next"), key := Value.str (Str.ofString "next") 436, val := Value.ref 176 } :: { hash := PyData.keyHash P (Str.ofString "skip_clause"), key := Value.str (Str.ofString "skip_clause") 443, val := Value.ref 183 } :: { hash := PyData.keyHash P (Str.ofString "skip_layout"), key := Value.str (Str.ofString "skip_layout") 451, val := Value.ref 190 } :: { hash := PyData.keyHash P (Str.ofString "skip_row"), key := Value.str (Str.ofString "skip_row") 459, val := Value.ref 197 } :: { hash := PyData.keyHash P (Str.ofString "skip_remark"), key := Value.str (Str.ofString "skip_remark") 468, val := Value.ref 204 } :: { hash := PyData.keyHash P (Str.ofString "word"), key := Value.str (Str.ofString "word") 477, val := Value.ref 211 } :: { hash := PyData.keyHash P (Str.ofString "symbol"), key := Value.str (Str.ofString "symbol") 486, val := Value.ref 218 } :: { hash := PyData.keyHash P (Str.ofString "ends_at"), key := Value.str (Str.ofString "ends_at") 495, val := Value.ref 225 } :: { hash := PyData.keyHash P (Str.ofString "numeral"), key := Value.str (Str.ofString "numeral") 507, val := Value.ref 232 } :: { hash := PyData.keyHash P (Str.ofString "digits"), key := Value.str (Str.ofString "digits") 518, val := Value.ref 239 } :: { hash := PyData.keyHash P (Str.ofString "character"), key := Value.str (Str.ofString "character") 528, val := Value.ref 246 } :: { hash := PyData.keyHash P (Str.ofString "quoted"), key := Value.str (Str.ofString "quoted") 541, val := Value.ref 253 } :: { hash := PyData.keyHash P (Str.ofString "escape"), key := Value.str (Str.ofString "escape") 555, val := Value.ref 260 } :: { hash := PyData.keyHash P (Str.ofString "abandon"), key := Value.str (Str.ofString "abandon") 565, val := Value.ref 267 } :: { hash := PyData.keyHash P (Str.ofString "__static_attributes__"), key := Value.str (Str.ofString "__static_attributes__") 569, val := Value.ref 268 } :: { hash := PyData.keyHash P (Str.ofString "__dict__"), key := Value.str (Str.ofString "__dict__") 571, val := Value.ref 271 } :: { hash := PyData.keyHash P (Str.ofString "__weakref__"), key := Value.str (Str.ofString "__weakref__") 573, val := Value.ref 272 } :: { hash := PyData.keyHash P (Str.ofString "__doc__"), key := Value.str (Str.ofString "__doc__") 574, val := Value.none } :: [])) 4 }) ::
(nat_lit 270, { cls := Value.type "type", data := Data.cls { name := Str.ofString "Tokenizer", bases := [Value.type "object"], mro := [Value.ref 270, Value.type "object"], ns := 269, qualname := Str.ofString "Tokenizer" }, slots := #[none, none, some (Value.str (Str.ofString "Tokenizer") 373), some (Value.str (Str.ofString "Tokenizer") 381), some (Value.builtin "object.__new__"), some (Value.bool true)] }) ::
(nat_lit 271, { cls := Value.type "getset_descriptor", data := Data.fields #[Value.str (Str.ofString "__dict__") 570, Value.ref 270, Value.builtin "function.__dict__", Value.builtin "function.__dict__#set"] }) ::
(nat_lit 272, { cls := Value.type "getset_descriptor", data := Data.fields #[Value.str (Str.ofString "__weakref__") 572, Value.ref 270, Value.builtin "ExceptionGroup.__weakref__", Value.none] }) ::
(nat_lit 275, { cls := Value.type "tuple", data := Data.seq #[] }) ::
(nat_lit 277, { cls := Value.type "tuple", data := Data.seq #[Value.str (Str.ofString "codes") 580, Value.str (Str.ofString "tokenizer") 581, Value.str (Str.ofString "sign") 582, Value.str (Str.ofString "token") 583, Value.str (Str.ofString "expected") 584] }) ::
(nat_lit 278, { cls := Value.type "tuple", data := Data.seq #[] }) ::
(nat_lit 280, { cls := Value.type "code", data := Data.fields #[Value.str (Str.ofString "read_number") 577, Value.str (Str.ofString "read_number") 578, Value.str (Str.ofString "/claim/cut.py") 579, Value.int 312 0, Value.int 1 0, Value.int 0 0, Value.int 0 0, Value.int 3 0, Value.ref 275, Value.bool true, Value.int 181 0, Value.ref 276, Value.none, Value.ref 277, Value.ref 278, Value.ref 279, Value.int 585 0, Value.int 312 0, Value.str (Str.ofString "/claim/cut.py") 586] }) ::
(nat_lit 281, { cls := Value.type "function", data := Data.func { name := Str.ofString "read_number", qualname := Str.ofString "read_number", params := hd.s37a, body := (.stmts hd.s37b), scope := hd.s37c, globals := 3, closure := [], defaults := Value.none, kwdefaults := Value.none, pyModule := Value.str (Str.ofString "clausemill.tokens") 319, code := Value.ref 280 } }) ::
(nat_lit 282, { cls := Value.type "tuple", data := Data.seq #[] }) ::
(nat_lit 285, { cls := Value.type "code", data := Data.fields #[Value.str (Str.ofString "law") 590, Value.str (Str.ofString "law") 591, Value.str (Str.ofString "/claim/cut.py") 592, Value.int 329 0, Value.int 1 0, Value.int 0 0, Value.int 0 0, Value.int 3 0, Value.ref 282, Value.bool true, Value.int 181 0, Value.ref 283, Value.none, Value.none, Value.none, Value.ref 284, Value.int 593 0, Value.int 329 0, Value.str (Str.ofString "/claim/cut.py") 594] }) ::
(nat_lit 286, { cls := Value.type "function", data := Data.func { name := Str.ofString "law", qualname := Str.ofString "law", params := hd.s39a, body := (.stmts hd.s39b), scope := hd.s39c, globals := 3, closure := [], defaults := Value.none, kwdefaults := Value.none, pyModule := Value.str (Str.ofString "law_rr0020_01") 588, code := Value.ref 285 } }) :: [] : List (Nat × Obj))) → Params → Frag) ?_ ?h
  case f => exact fun v _ => v
  case h =>
    delta PySem.Addr PySem.Tok hd.s0a hd.s0b hd.s0c hd.s3m0a hd.s3m0b hd.s3m0c hd.s6a hd.s6b hd.s6c hd.s7a hd.s7b hd.s7c hd.s8a hd.s8b hd.s8c hd.s9a hd.s9b hd.s9c hd.s10a hd.s10b hd.s10c hd.s11a hd.s11b hd.s11c hd.s12a hd.s12b hd.s12c hd.s13a hd.s13b hd.s13c hd.s14a hd.s14b hd.s14c hd.s15a hd.s15b hd.s15c hd.s34a hd.s34b hd.s34c hd.s35a hd.s35b hd.s35c hd.s36m0a hd.s36m0b hd.s36m0c hd.s36m1a hd.s36m1b hd.s36m1c hd.s36m2a hd.s36m2b hd.s36m2c hd.s36m3a hd.s36m3b hd.s36m3c hd.s36m4a hd.s36m4b hd.s36m4c hd.s36m5a hd.s36m5b hd.s36m5c hd.s36m6a hd.s36m6b hd.s36m6c hd.s36m7a hd.s36m7b hd.s36m7c hd.s36m8a hd.s36m8b hd.s36m8c hd.s36m9a hd.s36m9b hd.s36m9c hd.s36m10a hd.s36m10b hd.s36m10c hd.s36m11a hd.s36m11b hd.s36m11c hd.s36m12a hd.s36m12b hd.s36m12c hd.s36m13a hd.s36m13b hd.s36m13c hd.s36m14a hd.s36m14b hd.s36m14c hd.s36m15a hd.s36m15b hd.s36m15c hd.s36m16a hd.s36m16b hd.s36m16c hd.s36m17a hd.s36m17b hd.s36m17c hd.s37a hd.s37b hd.s37c hd.s39a hd.s39b hd.s39c
    exact rfl

noncomputable def hd.s39n : Str := by
  refine' (?f : (v : Str) → v = (fnN hd.s39) → Str) ?_ ?h
  case f => exact fun v _ => v
  case h =>
    conv => rhs; whnf

noncomputable def hd.s39p : Pos := by
  refine' (?f : (v : Pos) → v = (fnP hd.s39) → Pos) ?_ ?h
  case f => exact fun v _ => v
  case h =>
    conv => rhs; whnf

noncomputable def hd.law_d : DefRec := by
  refine' (?f : (v : DefRec) → v = (⟨hd.s39n, hd.s39a, hd.s39b, hd.s39c, hd.s39p⟩) → DefRec) ?_ ?h
  case f => exact fun v _ => v
  case h =>
    delta hd.s39n hd.s39a hd.s39b hd.s39c hd.s39p
    exact rfl

def hd.as : List Nat := 2 :: 3 :: 15 :: 17 :: 18 :: 20 :: 21 :: 22 :: 29 :: 30 :: 31 :: 32 :: 35 :: 42 :: 44 :: 45 :: 47 :: 48 :: 49 :: 50 :: 51 :: 54 :: 56 :: 57 :: 59 :: 60 :: 61 :: 63 :: 64 :: 66 :: 67 :: 68 :: 70 :: 71 :: 73 :: 74 :: 75 :: 77 :: 78 :: 80 :: 81 :: 82 :: 84 :: 85 :: 87 :: 88 :: 89 :: 91 :: 92 :: 94 :: 95 :: 96 :: 98 :: 99 :: 101 :: 102 :: 103 :: 105 :: 106 :: 108 :: 109 :: 110 :: 113 :: 114 :: 115 :: 118 :: 119 :: 120 :: 122 :: 123 :: 125 :: 126 :: 127 :: 129 :: 130 :: 132 :: 133 :: 141 :: 142 :: 144 :: 145 :: 147 :: 148 :: 149 :: 151 :: 152 :: 154 :: 155 :: 156 :: 158 :: 159 :: 161 :: 162 :: 163 :: 165 :: 166 :: 168 :: 169 :: 170 :: 172 :: 173 :: 175 :: 176 :: 177 :: 179 :: 180 :: 182 :: 183 :: 184 :: 186 :: 187 :: 189 :: 190 :: 191 :: 193 :: 194 :: 196 :: 197 :: 198 :: 200 :: 201 :: 203 :: 204 :: 205 :: 207 :: 208 :: 210 :: 211 :: 212 :: 214 :: 215 :: 217 :: 218 :: 219 :: 221 :: 222 :: 224 :: 225 :: 226 :: 228 :: 229 :: 231 :: 232 :: 233 :: 235 :: 236 :: 238 :: 239 :: 240 :: 242 :: 243 :: 245 :: 246 :: 247 :: 249 :: 250 :: 252 :: 253 :: 254 :: 256 :: 257 :: 259 :: 260 :: 261 :: 263 :: 264 :: 266 :: 267 :: 268 :: 269 :: 270 :: 271 :: 272 :: 275 :: 277 :: 278 :: 280 :: 281 :: 282 :: 285 :: 286 :: []
noncomputable def hd.view_39 : Program := by
  refine' (?f : (v : Program) → v = ({ PySem.Challenge.rw_rr0020_01.row.toRowW.prog with main := { PySem.Challenge.rw_rr0020_01.row.toRowW.prog.main with body := [hd.s0, hd.s2, hd.s3, hd.s5, hd.s6, hd.s7, hd.s8, hd.s9, hd.s10, hd.s11, hd.s12, hd.s13, hd.s14, hd.s15, hd.s17, hd.s18, hd.s19, hd.s20, hd.s21, hd.s22, hd.s23, hd.s24, hd.s25, hd.s26, hd.s27, hd.s28, hd.s29, hd.s30, hd.s31, hd.s32, hd.s33, hd.s34, hd.s35, hd.s36, hd.s37, hd.s39] } }) → Program) ?_ ?h
  case f => exact fun v _ => v
  case h =>
    delta hd.s0 hd.s2 hd.s3 hd.s5 hd.s6 hd.s7 hd.s8 hd.s9 hd.s10 hd.s11 hd.s12 hd.s13 hd.s14 hd.s15 hd.s17 hd.s18 hd.s19 hd.s20 hd.s21 hd.s22 hd.s23 hd.s24 hd.s25 hd.s26 hd.s27 hd.s28 hd.s29 hd.s30 hd.s31 hd.s32 hd.s33 hd.s34 hd.s35 hd.s36 hd.s37 hd.s39
    exact rfl


theorem hd.as_ok : ∀ P, hd.as = (hd.heap_39 P).map (·.1) := fun P => by kernel_rfl
noncomputable def hd.hook : Hook := kHook hd.heap_39 hd.as hd.as_ok
noncomputable abbrev hd.p : Program := PySem.Challenge.rw_rr0020_01.row.toRowW.prog
set_option maxRecDepth 10000 in
noncomputable def hd.heap1 : Params → Heap := fun P => ⟨List.toArray (
boot_o_0 P ::
boot_o_1 P ::
{ cls := Value.none, data := Data.dict (List.toArray ({ hash := PyData.keyHash P (Str.ofString "type.__subclasses__.Exception.0"), key := Value.str (Str.ofString "type.__subclasses__.Exception.0") 212, val := Value.int 31 0 } :: { hash := PyData.keyHash P (Str.ofString "type.__subclasses__.Exception.n"), key := Value.str (Str.ofString "type.__subclasses__.Exception.n") 213, val := Value.int 1 0 } :: [])) 2 } ::
{ cls := Value.type "dict", data := Data.dict (List.toArray ({ hash := PyData.keyHash P (Str.ofString "__name__"), key := Value.str (Str.ofString "__name__") 165, val := Value.str (Str.ofString "law_rr0020_01") 588 } :: { hash := PyData.keyHash P (Str.ofString "__doc__"), key := Value.str (Str.ofString "__doc__") 166, val := Value.none } :: { hash := PyData.keyHash P (Str.ofString "__package__"), key := Value.str (Str.ofString "__package__") 167, val := Value.none } :: { hash := PyData.keyHash P (Str.ofString "__loader__"), key := Value.str (Str.ofString "__loader__") 168, val := Value.builtin "__main__.__loader__#opaque" } :: { hash := PyData.keyHash P (Str.ofString "__spec__"), key := Value.str (Str.ofString "__spec__") 169, val := Value.none } :: { hash := PyData.keyHash P (Str.ofString "__annotations__"), key := Value.str (Str.ofString "__annotations__") 170, val := Value.ref 6 } :: { hash := PyData.keyHash P (Str.ofString "__builtins__"), key := Value.str (Str.ofString "__builtins__") 171, val := Value.ref 4 } :: { hash := PyData.keyHash P (Str.ofString "__file__"), key := Value.str (Str.ofString "__file__") 173, val := Value.str (Str.ofString "/claim/cut.py") 172 } :: { hash := PyData.keyHash P (Str.ofString "__cached__"), key := Value.str (Str.ofString "__cached__") 174, val := Value.none } :: { hash := PyData.keyHash P (Str.ofString "_wall"), key := Value.str (Str.ofString "_wall") 193, val := Value.ref 21 } :: { hash := PyData.keyHash P (Str.ofString "ClausemillError"), key := Value.str (Str.ofString "ClausemillError") 215, val := Value.ref 31 } :: { hash := PyData.keyHash P (Str.ofString "SyntaxFault"), key := Value.str (Str.ofString "SyntaxFault") 246, val := Value.ref 51 } :: { hash := PyData.keyHash P (Str.ofString "MAX_CODE"), key := Value.str (Str.ofString "MAX_CODE") 250, val := Value.int 1114111 249 } :: { hash := PyData.keyHash P (Str.ofString "is_layout"), key := Value.str (Str.ofString "is_layout") 257, val := Value.ref 60 } :: { hash := PyData.keyHash P (Str.ofString "is_digit"), key := Value.str (Str.ofString "is_digit") 264, val := Value.ref 67 } :: { hash := PyData.keyHash P (Str.ofString "is_small"), key := Value.str (Str.ofString "is_small") 271, val := Value.ref 74 } :: { hash := PyData.keyHash P (Str.ofString "is_capital"), key := Value.str (Str.ofString "is_capital") 278, val := Value.ref 81 } :: { hash := PyData.keyHash P (Str.ofString "is_alnum"), key := Value.str (Str.ofString "is_alnum") 285, val := Value.ref 88 } :: { hash := PyData.keyHash P (Str.ofString "is_symbol"), key := Value.str (Str.ofString "is_symbol") 292, val := Value.ref 95 } :: { hash := PyData.keyHash P (Str.ofString "is_quotable"), key := Value.str (Str.ofString "is_quotable") 299, val := Value.ref 102 } :: { hash := PyData.keyHash P (Str.ofString "digit_value"), key := Value.str (Str.ofString "digit_value") 306, val := Value.ref 109 } :: { hash := PyData.keyHash P (Str.ofString "text_codes"), key := Value.str (Str.ofString "text_codes") 312, val := Value.ref 114 } :: { hash := PyData.keyHash P (Str.ofString "codes_text"), key := Value.str (Str.ofString "codes_text") 318, val := Value.ref 119 } :: { hash := PyData.keyHash P (Str.ofString "NO_CODE"), key := Value.str (Str.ofString "NO_CODE") 323, val := Value.int (-1) 322 } :: { hash := PyData.keyHash P (Str.ofString "BAD_CODE"), key := Value.str (Str.ofString "BAD_CODE") 326, val := Value.int (-2) 325 } :: { hash := PyData.keyHash P (Str.ofString "NEW_LINE"), key := Value.str (Str.ofString "NEW_LINE") 328, val := Value.int 10 327 } :: { hash := PyData.keyHash P (Str.ofString "DOUBLE_QUOTE"), key := Value.str (Str.ofString "DOUBLE_QUOTE") 330, val := Value.int 34 329 } :: { hash := PyData.keyHash P (Str.ofString "PERCENT"), key := Value.str (Str.ofString "PERCENT") 332, val := Value.int 37 331 } :: { hash := PyData.keyHash P (Str.ofString "QUOTE"), key := Value.str (Str.ofString "QUOTE") 334, val := Value.int 39 333 } :: { hash := PyData.keyHash P (Str.ofString "OPEN"), key := Value.str (Str.ofString "OPEN") 336, val := Value.int 40 335 } :: { hash := PyData.keyHash P (Str.ofString "STAR"), key := Value.str (Str.ofString "STAR") 338, val := Value.int 42 337 } :: { hash := PyData.keyHash P (Str.ofString "DOT"), key := Value.str (Str.ofString "DOT") 340, val := Value.int 46 339 } :: { hash := PyData.keyHash P (Str.ofString "SLASH"), key := Value.str (Str.ofString "SLASH") 342, val := Value.int 47 341 } :: { hash := PyData.keyHash P (Str.ofString "DIGIT_ZERO"), key := Value.str (Str.ofString "DIGIT_ZERO") 344, val := Value.int 48 343 } :: { hash := PyData.keyHash P (Str.ofString "BACKSLASH"), key := Value.str (Str.ofString "BACKSLASH") 346, val := Value.int 92 345 } :: { hash := PyData.keyHash P (Str.ofString "UNDERSCORE"), key := Value.str (Str.ofString "UNDERSCORE") 348, val := Value.int 95 347 } :: { hash := PyData.keyHash P (Str.ofString "BACK_QUOTE"), key := Value.str (Str.ofString "BACK_QUOTE") 350, val := Value.int 96 349 } :: { hash := PyData.keyHash P (Str.ofString "LETTER_B"), key := Value.str (Str.ofString "LETTER_B") 352, val := Value.int 98 351 } :: { hash := PyData.keyHash P (Str.ofString "LETTER_O"), key := Value.str (Str.ofString "LETTER_O") 354, val := Value.int 111 353 } :: { hash := PyData.keyHash P (Str.ofString "LETTER_X"), key := Value.str (Str.ofString "LETTER_X") 356, val := Value.int 120 355 } :: { hash := PyData.keyHash P (Str.ofString "simple_escape"), key := Value.str (Str.ofString "simple_escape") 365, val := Value.ref 126 } :: { hash := PyData.keyHash P (Str.ofString "numeral_base"), key := Value.str (Str.ofString "numeral_base") 372, val := Value.ref 133 } :: { hash := PyData.keyHash P (Str.ofString "Tokenizer"), key := Value.str (Str.ofString "Tokenizer") 576, val := Value.ref 270 } :: { hash := PyData.keyHash P (Str.ofString "read_number"), key := Value.str (Str.ofString "read_number") 587, val := Value.ref 281 } :: { hash := PyData.keyHash P (Str.ofString "law"), key := Value.str (Str.ofString "law") 595, val := Value.ref 286 } :: [])) 45 } ::
boot_o_4 P ::
boot_o_5 P ::
boot_o_6 P ::
boot_o_7 P ::
boot_o_8 P ::
boot_o_9 P ::
boot_o_10 P ::
{ cls := Value.type "tuple", data := Data.seq #[] } ::
{ cls := Value.none, data := Data.fields #[Value.int 1 0, Value.int 0 0, Value.ref 20, Value.int 5 0, Value.int 0 0, Value.ref 27, Value.int 7 0, Value.int 0 0, Value.ref 40, Value.int 16 0, Value.int 0 0, Value.ref 59, Value.int 18 0, Value.int 0 0, Value.ref 66, Value.int 20 0, Value.int 0 0, Value.ref 73, Value.int 22 0, Value.int 0 0, Value.ref 80, Value.int 24 0, Value.int 0 0, Value.ref 87, Value.int 26 0, Value.int 0 0, Value.ref 94, Value.int 28 0, Value.int 0 0, Value.ref 101, Value.int 30 0, Value.int 0 0, Value.ref 108, Value.int 38 0, Value.int 0 0, Value.ref 113, Value.int 40 0, Value.int 0 0, Value.ref 118, Value.int 60 0, Value.int 0 0, Value.ref 125, Value.int 68 0, Value.int 0 0, Value.ref 132, Value.int 76 0, Value.int 0 0, Value.ref 139, Value.int 312 0, Value.int 0 0, Value.ref 280, Value.int 329 0, Value.int 0 0, Value.ref 285] } ::
{ cls := Value.type "code", data := Data.fields #[Value.str (Str.ofString "<module>") 182, Value.str (Str.ofString "<module>") 183, Value.str (Str.ofString "/claim/cut.py") 184, Value.int 1 0, Value.int 0 0, Value.int 0 0, Value.int 0 0, Value.int 0 0, Value.ref 11, Value.bool false, Value.int 181 0, Value.ref 12, Value.none, Value.none, Value.none, Value.none, Value.int 185 0, Value.int 1 0, Value.str (Str.ofString "/claim/cut.py") 186] } ::
{ cls := Value.type "frame", slots := #[some (Value.ref 13), some (Value.ref 3), some (Value.ref 3), none, some (Value.str (Str.ofString "__main__") 164), none, some (Value.ref 0)] } ::
{ cls := Value.type "tuple", data := Data.seq #[] } ::
{ cls := Value.none, data := Data.fields #[] } ::
{ cls := Value.type "tuple", data := Data.seq #[Value.str (Str.ofString "k") 190] } ::
{ cls := Value.type "tuple", data := Data.seq #[] } ::
{ cls := Value.none, data := Data.func { name := Str.ofString "_wall", qualname := Str.ofString "_wall", params := hd.s0a, body := (.stmts hd.s0b), scope := hd.s0c, globals := 0, closure := [], defaults := Value.none, kwdefaults := Value.none } } ::
{ cls := Value.type "code", data := Data.fields #[Value.str (Str.ofString "_wall") 187, Value.str (Str.ofString "_wall") 188, Value.str (Str.ofString "/claim/cut.py") 189, Value.int 1 0, Value.int 1 0, Value.int 0 0, Value.int 0 0, Value.int 3 0, Value.ref 15, Value.bool true, Value.int 181 0, Value.ref 16, Value.none, Value.ref 17, Value.ref 18, Value.ref 19, Value.int 191 0, Value.int 1 0, Value.str (Str.ofString "/claim/cut.py") 192] } ::
{ cls := Value.type "function", data := Data.func { name := Str.ofString "_wall", qualname := Str.ofString "_wall", params := hd.s0a, body := (.stmts hd.s0b), scope := hd.s0c, globals := 3, closure := [], defaults := Value.none, kwdefaults := Value.none, pyModule := Value.str (Str.ofString "__main__") 164, code := Value.ref 20 } } ::
{ cls := Value.type "tuple", data := Data.seq #[Value.type "Exception"] } ::
{ cls := Value.type "builtin_function_or_method", data := Data.fields #[Value.builtin "type.__prepare__", Value.type "type"] } ::
{ cls := Value.type "dict", data := Data.dict (List.toArray ({ hash := PyData.keyHash P (Str.ofString "__module__"), key := Value.str (Str.ofString "__module__") 203, val := Value.str (Str.ofString "clausemill.symbols") 194 } :: { hash := PyData.keyHash P (Str.ofString "__qualname__"), key := Value.str (Str.ofString "__qualname__") 205, val := Value.str (Str.ofString "ClausemillError") 204 } :: { hash := PyData.keyHash P (Str.ofString "__firstlineno__"), key := Value.str (Str.ofString "__firstlineno__") 207, val := Value.int 5 206 } :: { hash := PyData.keyHash P (Str.ofString "__static_attributes__"), key := Value.str (Str.ofString "__static_attributes__") 208, val := Value.ref 29 } :: [])) 4 } ::
{ cls := Value.type "tuple", data := Data.seq #[] } ::
{ cls := Value.none, data := Data.fields #[] } ::
{ cls := Value.type "code", data := Data.fields #[Value.str (Str.ofString "ClausemillError") 198, Value.str (Str.ofString "ClausemillError") 199, Value.str (Str.ofString "/claim/cut.py") 200, Value.int 5 0, Value.int 0 0, Value.int 0 0, Value.int 0 0, Value.int 0 0, Value.ref 25, Value.bool false, Value.int 181 0, Value.ref 26, Value.none, Value.none, Value.none, Value.none, Value.int 201 0, Value.int 5 0, Value.str (Str.ofString "/claim/cut.py") 202] } ::
{ cls := Value.type "frame", slots := #[some (Value.ref 27), some (Value.ref 3), some (Value.ref 24), none, some (Value.str (Str.ofString "clausemill.symbols") 194), none, some (Value.ref 0)] } ::
{ cls := Value.type "tuple", data := Data.seq #[] } ::
{ cls := Value.type "dict", data := Data.dict (List.toArray ({ hash := PyData.keyHash P (Str.ofString "__module__"), key := Value.str (Str.ofString "__module__") 203, val := Value.str (Str.ofString "clausemill.symbols") 194 } :: { hash := PyData.keyHash P (Str.ofString "__firstlineno__"), key := Value.str (Str.ofString "__firstlineno__") 207, val := Value.int 5 206 } :: { hash := PyData.keyHash P (Str.ofString "__static_attributes__"), key := Value.str (Str.ofString "__static_attributes__") 208, val := Value.ref 29 } :: { hash := PyData.keyHash P (Str.ofString "__weakref__"), key := Value.str (Str.ofString "__weakref__") 210, val := Value.ref 32 } :: { hash := PyData.keyHash P (Str.ofString "__doc__"), key := Value.str (Str.ofString "__doc__") 211, val := Value.none } :: [])) 3 } ::
{ cls := Value.type "type", data := Data.cls { name := Str.ofString "ClausemillError", bases := [Value.type "Exception"], mro := [Value.ref 31, Value.type "Exception", Value.type "BaseException", Value.type "object"], ns := 30, qualname := Str.ofString "ClausemillError", subclasses := [Value.ref 51] }, slots := #[some (Value.ref 22), none, some (Value.str (Str.ofString "ClausemillError") 196), some (Value.str (Str.ofString "ClausemillError") 204), some (Value.builtin "Exception.__new__"), some (Value.bool true)] } ::
{ cls := Value.type "getset_descriptor", data := Data.fields #[Value.str (Str.ofString "__weakref__") 209, Value.ref 31, Value.builtin "ExceptionGroup.__weakref__", Value.none] } ::
{ cls := Value.type "super", data := Data.fields #[Value.ref 31, Value.ref 31, Value.ref 31] } ::
{ cls := Value.type "builtin_function_or_method", data := Data.fields #[Value.builtin "object.__init_subclass__", Value.ref 31] } ::
{ cls := Value.type "tuple", data := Data.seq #[Value.ref 31] } ::
{ cls := Value.type "builtin_function_or_method", data := Data.fields #[Value.builtin "type.__prepare__", Value.type "type"] } ::
{ cls := Value.type "dict", data := Data.dict (List.toArray ({ hash := PyData.keyHash P (Str.ofString "__module__"), key := Value.str (Str.ofString "__module__") 223, val := Value.str (Str.ofString "clausemill.symbols") 194 } :: { hash := PyData.keyHash P (Str.ofString "__qualname__"), key := Value.str (Str.ofString "__qualname__") 225, val := Value.str (Str.ofString "SyntaxFault") 224 } :: { hash := PyData.keyHash P (Str.ofString "__firstlineno__"), key := Value.str (Str.ofString "__firstlineno__") 227, val := Value.int 7 226 } :: { hash := PyData.keyHash P (Str.ofString "__init__"), key := Value.str (Str.ofString "__init__") 238, val := Value.ref 48 } :: { hash := PyData.keyHash P (Str.ofString "__static_attributes__"), key := Value.str (Str.ofString "__static_attributes__") 243, val := Value.ref 49 } :: [])) 5 } ::
{ cls := Value.type "tuple", data := Data.seq #[] } ::
{ cls := Value.none, data := Data.fields #[Value.int 9 0, Value.int 4 0, Value.ref 47] } ::
{ cls := Value.type "code", data := Data.fields #[Value.str (Str.ofString "SyntaxFault") 218, Value.str (Str.ofString "SyntaxFault") 219, Value.str (Str.ofString "/claim/cut.py") 220, Value.int 7 0, Value.int 0 0, Value.int 0 0, Value.int 0 0, Value.int 0 0, Value.ref 38, Value.bool false, Value.int 181 0, Value.ref 39, Value.none, Value.none, Value.none, Value.none, Value.int 221 0, Value.int 7 0, Value.str (Str.ofString "/claim/cut.py") 222] } ::
{ cls := Value.type "frame", slots := #[some (Value.ref 40), some (Value.ref 3), some (Value.ref 37), none, some (Value.str (Str.ofString "clausemill.symbols") 194), none, some (Value.ref 0)] } ::
{ cls := Value.type "tuple", data := Data.seq #[] } ::
{ cls := Value.none, data := Data.fields #[] } ::
{ cls := Value.type "tuple", data := Data.seq #[Value.str (Str.ofString "self") 231, Value.str (Str.ofString "kind") 232, Value.str (Str.ofString "at") 233, Value.str (Str.ofString "row") 234, Value.str (Str.ofString "column") 235] } ::
{ cls := Value.type "tuple", data := Data.seq #[] } ::
{ cls := Value.none, data := Data.func { name := Str.ofString "__init__", qualname := Str.ofString "SyntaxFault.__init__", params := hd.s3m0a, body := (.stmts hd.s3m0b), scope := hd.s3m0c, globals := 0, closure := [], defaults := Value.none, kwdefaults := Value.none } } ::
{ cls := Value.type "code", data := Data.fields #[Value.str (Str.ofString "__init__") 228, Value.str (Str.ofString "SyntaxFault.__init__") 229, Value.str (Str.ofString "/claim/cut.py") 230, Value.int 9 0, Value.int 5 0, Value.int 0 0, Value.int 0 0, Value.int 3 0, Value.ref 42, Value.bool true, Value.int 181 0, Value.ref 43, Value.none, Value.ref 44, Value.ref 45, Value.ref 46, Value.int 236 0, Value.int 9 0, Value.str (Str.ofString "/claim/cut.py") 237] } ::
{ cls := Value.type "function", data := Data.func { name := Str.ofString "__init__", qualname := Str.ofString "SyntaxFault.__init__", params := hd.s3m0a, body := (.stmts hd.s3m0b), scope := hd.s3m0c, globals := 3, closure := [], defaults := Value.none, kwdefaults := Value.none, pyModule := Value.str (Str.ofString "clausemill.symbols") 194, code := Value.ref 47 } } ::
{ cls := Value.type "tuple", data := Data.seq #[Value.str (Str.ofString "at") 239, Value.str (Str.ofString "column") 240, Value.str (Str.ofString "kind") 241, Value.str (Str.ofString "row") 242] } ::
{ cls := Value.type "dict", data := Data.dict (List.toArray ({ hash := PyData.keyHash P (Str.ofString "__module__"), key := Value.str (Str.ofString "__module__") 223, val := Value.str (Str.ofString "clausemill.symbols") 194 } :: { hash := PyData.keyHash P (Str.ofString "__firstlineno__"), key := Value.str (Str.ofString "__firstlineno__") 227, val := Value.int 7 226 } :: { hash := PyData.keyHash P (Str.ofString "__init__"), key := Value.str (Str.ofString "__init__") 238, val := Value.ref 48 } :: { hash := PyData.keyHash P (Str.ofString "__static_attributes__"), key := Value.str (Str.ofString "__static_attributes__") 243, val := Value.ref 49 } :: { hash := PyData.keyHash P (Str.ofString "__doc__"), key := Value.str (Str.ofString "__doc__") 244, val := Value.none } :: [])) 2 } ::
{ cls := Value.type "type", data := Data.cls { name := Str.ofString "SyntaxFault", bases := [Value.ref 31], mro := [Value.ref 51, Value.ref 31, Value.type "Exception", Value.type "BaseException", Value.type "object"], ns := 50, qualname := Str.ofString "SyntaxFault" }, slots := #[some (Value.ref 35), none, some (Value.str (Str.ofString "SyntaxFault") 216), some (Value.str (Str.ofString "SyntaxFault") 224), some (Value.builtin "Exception.__new__"), some (Value.bool true)] } ::
{ cls := Value.type "super", data := Data.fields #[Value.ref 51, Value.ref 51, Value.ref 51] } ::
{ cls := Value.type "builtin_function_or_method", data := Data.fields #[Value.builtin "object.__init_subclass__", Value.ref 51] } ::
{ cls := Value.type "tuple", data := Data.seq #[] } ::
{ cls := Value.none, data := Data.fields #[] } ::
{ cls := Value.type "tuple", data := Data.seq #[Value.str (Str.ofString "code") 254] } ::
{ cls := Value.type "tuple", data := Data.seq #[] } ::
{ cls := Value.none, data := Data.func { name := Str.ofString "is_layout", qualname := Str.ofString "is_layout", params := hd.s6a, body := (.stmts hd.s6b), scope := hd.s6c, globals := 0, closure := [], defaults := Value.none, kwdefaults := Value.none } } ::
{ cls := Value.type "code", data := Data.fields #[Value.str (Str.ofString "is_layout") 251, Value.str (Str.ofString "is_layout") 252, Value.str (Str.ofString "/claim/cut.py") 253, Value.int 16 0, Value.int 1 0, Value.int 0 0, Value.int 0 0, Value.int 3 0, Value.ref 54, Value.bool true, Value.int 181 0, Value.ref 55, Value.none, Value.ref 56, Value.ref 57, Value.ref 58, Value.int 255 0, Value.int 16 0, Value.str (Str.ofString "/claim/cut.py") 256] } ::
{ cls := Value.type "function", data := Data.func { name := Str.ofString "is_layout", qualname := Str.ofString "is_layout", params := hd.s6a, body := (.stmts hd.s6b), scope := hd.s6c, globals := 3, closure := [], defaults := Value.none, kwdefaults := Value.none, pyModule := Value.str (Str.ofString "clausemill.chars") 247, code := Value.ref 59 } } ::
{ cls := Value.type "tuple", data := Data.seq #[] } ::
{ cls := Value.none, data := Data.fields #[] } ::
{ cls := Value.type "tuple", data := Data.seq #[Value.str (Str.ofString "code") 261] } ::
{ cls := Value.type "tuple", data := Data.seq #[] } ::
{ cls := Value.none, data := Data.func { name := Str.ofString "is_digit", qualname := Str.ofString "is_digit", params := hd.s7a, body := (.stmts hd.s7b), scope := hd.s7c, globals := 0, closure := [], defaults := Value.none, kwdefaults := Value.none } } ::
{ cls := Value.type "code", data := Data.fields #[Value.str (Str.ofString "is_digit") 258, Value.str (Str.ofString "is_digit") 259, Value.str (Str.ofString "/claim/cut.py") 260, Value.int 18 0, Value.int 1 0, Value.int 0 0, Value.int 0 0, Value.int 3 0, Value.ref 61, Value.bool true, Value.int 181 0, Value.ref 62, Value.none, Value.ref 63, Value.ref 64, Value.ref 65, Value.int 262 0, Value.int 18 0, Value.str (Str.ofString "/claim/cut.py") 263] } ::
{ cls := Value.type "function", data := Data.func { name := Str.ofString "is_digit", qualname := Str.ofString "is_digit", params := hd.s7a, body := (.stmts hd.s7b), scope := hd.s7c, globals := 3, closure := [], defaults := Value.none, kwdefaults := Value.none, pyModule := Value.str (Str.ofString "clausemill.chars") 247, code := Value.ref 66 } } ::
{ cls := Value.type "tuple", data := Data.seq #[] } ::
{ cls := Value.none, data := Data.fields #[] } ::
{ cls := Value.type "tuple", data := Data.seq #[Value.str (Str.ofString "code") 268] } ::
{ cls := Value.type "tuple", data := Data.seq #[] } ::
{ cls := Value.none, data := Data.func { name := Str.ofString "is_small", qualname := Str.ofString "is_small", params := hd.s8a, body := (.stmts hd.s8b), scope := hd.s8c, globals := 0, closure := [], defaults := Value.none, kwdefaults := Value.none } } ::
{ cls := Value.type "code", data := Data.fields #[Value.str (Str.ofString "is_small") 265, Value.str (Str.ofString "is_small") 266, Value.str (Str.ofString "/claim/cut.py") 267, Value.int 20 0, Value.int 1 0, Value.int 0 0, Value.int 0 0, Value.int 3 0, Value.ref 68, Value.bool true, Value.int 181 0, Value.ref 69, Value.none, Value.ref 70, Value.ref 71, Value.ref 72, Value.int 269 0, Value.int 20 0, Value.str (Str.ofString "/claim/cut.py") 270] } ::
{ cls := Value.type "function", data := Data.func { name := Str.ofString "is_small", qualname := Str.ofString "is_small", params := hd.s8a, body := (.stmts hd.s8b), scope := hd.s8c, globals := 3, closure := [], defaults := Value.none, kwdefaults := Value.none, pyModule := Value.str (Str.ofString "clausemill.chars") 247, code := Value.ref 73 } } ::
{ cls := Value.type "tuple", data := Data.seq #[] } ::
{ cls := Value.none, data := Data.fields #[] } ::
{ cls := Value.type "tuple", data := Data.seq #[Value.str (Str.ofString "code") 275] } ::
{ cls := Value.type "tuple", data := Data.seq #[] } ::
{ cls := Value.none, data := Data.func { name := Str.ofString "is_capital", qualname := Str.ofString "is_capital", params := hd.s9a, body := (.stmts hd.s9b), scope := hd.s9c, globals := 0, closure := [], defaults := Value.none, kwdefaults := Value.none } } ::
{ cls := Value.type "code", data := Data.fields #[Value.str (Str.ofString "is_capital") 272, Value.str (Str.ofString "is_capital") 273, Value.str (Str.ofString "/claim/cut.py") 274, Value.int 22 0, Value.int 1 0, Value.int 0 0, Value.int 0 0, Value.int 3 0, Value.ref 75, Value.bool true, Value.int 181 0, Value.ref 76, Value.none, Value.ref 77, Value.ref 78, Value.ref 79, Value.int 276 0, Value.int 22 0, Value.str (Str.ofString "/claim/cut.py") 277] } ::
{ cls := Value.type "function", data := Data.func { name := Str.ofString "is_capital", qualname := Str.ofString "is_capital", params := hd.s9a, body := (.stmts hd.s9b), scope := hd.s9c, globals := 3, closure := [], defaults := Value.none, kwdefaults := Value.none, pyModule := Value.str (Str.ofString "clausemill.chars") 247, code := Value.ref 80 } } ::
{ cls := Value.type "tuple", data := Data.seq #[] } ::
{ cls := Value.none, data := Data.fields #[] } ::
{ cls := Value.type "tuple", data := Data.seq #[Value.str (Str.ofString "code") 282] } ::
{ cls := Value.type "tuple", data := Data.seq #[] } ::
{ cls := Value.none, data := Data.func { name := Str.ofString "is_alnum", qualname := Str.ofString "is_alnum", params := hd.s10a, body := (.stmts hd.s10b), scope := hd.s10c, globals := 0, closure := [], defaults := Value.none, kwdefaults := Value.none } } ::
{ cls := Value.type "code", data := Data.fields #[Value.str (Str.ofString "is_alnum") 279, Value.str (Str.ofString "is_alnum") 280, Value.str (Str.ofString "/claim/cut.py") 281, Value.int 24 0, Value.int 1 0, Value.int 0 0, Value.int 0 0, Value.int 3 0, Value.ref 82, Value.bool true, Value.int 181 0, Value.ref 83, Value.none, Value.ref 84, Value.ref 85, Value.ref 86, Value.int 283 0, Value.int 24 0, Value.str (Str.ofString "/claim/cut.py") 284] } ::
{ cls := Value.type "function", data := Data.func { name := Str.ofString "is_alnum", qualname := Str.ofString "is_alnum", params := hd.s10a, body := (.stmts hd.s10b), scope := hd.s10c, globals := 3, closure := [], defaults := Value.none, kwdefaults := Value.none, pyModule := Value.str (Str.ofString "clausemill.chars") 247, code := Value.ref 87 } } ::
{ cls := Value.type "tuple", data := Data.seq #[] } ::
{ cls := Value.none, data := Data.fields #[] } ::
{ cls := Value.type "tuple", data := Data.seq #[Value.str (Str.ofString "code") 289] } ::
{ cls := Value.type "tuple", data := Data.seq #[] } ::
{ cls := Value.none, data := Data.func { name := Str.ofString "is_symbol", qualname := Str.ofString "is_symbol", params := hd.s11a, body := (.stmts hd.s11b), scope := hd.s11c, globals := 0, closure := [], defaults := Value.none, kwdefaults := Value.none } } ::
{ cls := Value.type "code", data := Data.fields #[Value.str (Str.ofString "is_symbol") 286, Value.str (Str.ofString "is_symbol") 287, Value.str (Str.ofString "/claim/cut.py") 288, Value.int 26 0, Value.int 1 0, Value.int 0 0, Value.int 0 0, Value.int 3 0, Value.ref 89, Value.bool true, Value.int 181 0, Value.ref 90, Value.none, Value.ref 91, Value.ref 92, Value.ref 93, Value.int 290 0, Value.int 26 0, Value.str (Str.ofString "/claim/cut.py") 291] } ::
{ cls := Value.type "function", data := Data.func { name := Str.ofString "is_symbol", qualname := Str.ofString "is_symbol", params := hd.s11a, body := (.stmts hd.s11b), scope := hd.s11c, globals := 3, closure := [], defaults := Value.none, kwdefaults := Value.none, pyModule := Value.str (Str.ofString "clausemill.chars") 247, code := Value.ref 94 } } ::
{ cls := Value.type "tuple", data := Data.seq #[] } ::
{ cls := Value.none, data := Data.fields #[] } ::
{ cls := Value.type "tuple", data := Data.seq #[Value.str (Str.ofString "code") 296] } ::
{ cls := Value.type "tuple", data := Data.seq #[] } ::
{ cls := Value.none, data := Data.func { name := Str.ofString "is_quotable", qualname := Str.ofString "is_quotable", params := hd.s12a, body := (.stmts hd.s12b), scope := hd.s12c, globals := 0, closure := [], defaults := Value.none, kwdefaults := Value.none } } ::
{ cls := Value.type "code", data := Data.fields #[Value.str (Str.ofString "is_quotable") 293, Value.str (Str.ofString "is_quotable") 294, Value.str (Str.ofString "/claim/cut.py") 295, Value.int 28 0, Value.int 1 0, Value.int 0 0, Value.int 0 0, Value.int 3 0, Value.ref 96, Value.bool true, Value.int 181 0, Value.ref 97, Value.none, Value.ref 98, Value.ref 99, Value.ref 100, Value.int 297 0, Value.int 28 0, Value.str (Str.ofString "/claim/cut.py") 298] } ::
{ cls := Value.type "function", data := Data.func { name := Str.ofString "is_quotable", qualname := Str.ofString "is_quotable", params := hd.s12a, body := (.stmts hd.s12b), scope := hd.s12c, globals := 3, closure := [], defaults := Value.none, kwdefaults := Value.none, pyModule := Value.str (Str.ofString "clausemill.chars") 247, code := Value.ref 101 } } ::
{ cls := Value.type "tuple", data := Data.seq #[] } ::
{ cls := Value.none, data := Data.fields #[] } ::
{ cls := Value.type "tuple", data := Data.seq #[Value.str (Str.ofString "code") 303] } ::
{ cls := Value.type "tuple", data := Data.seq #[] } ::
{ cls := Value.none, data := Data.func { name := Str.ofString "digit_value", qualname := Str.ofString "digit_value", params := hd.s13a, body := (.stmts hd.s13b), scope := hd.s13c, globals := 0, closure := [], defaults := Value.none, kwdefaults := Value.none } } ::
{ cls := Value.type "code", data := Data.fields #[Value.str (Str.ofString "digit_value") 300, Value.str (Str.ofString "digit_value") 301, Value.str (Str.ofString "/claim/cut.py") 302, Value.int 30 0, Value.int 1 0, Value.int 0 0, Value.int 0 0, Value.int 3 0, Value.ref 103, Value.bool true, Value.int 181 0, Value.ref 104, Value.none, Value.ref 105, Value.ref 106, Value.ref 107, Value.int 304 0, Value.int 30 0, Value.str (Str.ofString "/claim/cut.py") 305] } ::
{ cls := Value.type "function", data := Data.func { name := Str.ofString "digit_value", qualname := Str.ofString "digit_value", params := hd.s13a, body := (.stmts hd.s13b), scope := hd.s13c, globals := 3, closure := [], defaults := Value.none, kwdefaults := Value.none, pyModule := Value.str (Str.ofString "clausemill.chars") 247, code := Value.ref 108 } } ::
{ cls := Value.type "tuple", data := Data.seq #[] } ::
{ cls := Value.none, data := Data.fields #[] } ::
{ cls := Value.none, data := Data.func { name := Str.ofString "text_codes", qualname := Str.ofString "text_codes", params := hd.s14a, body := (.stmts hd.s14b), scope := hd.s14c, globals := 0, closure := [], defaults := Value.none, kwdefaults := Value.none } } ::
{ cls := Value.type "code", data := Data.fields #[Value.str (Str.ofString "text_codes") 307, Value.str (Str.ofString "text_codes") 308, Value.str (Str.ofString "/claim/cut.py") 309, Value.int 38 0, Value.int 1 0, Value.int 0 0, Value.int 0 0, Value.int 3 0, Value.ref 110, Value.bool true, Value.int 181 0, Value.ref 111, Value.none, Value.none, Value.none, Value.ref 112, Value.int 310 0, Value.int 38 0, Value.str (Str.ofString "/claim/cut.py") 311] } ::
{ cls := Value.type "function", data := Data.func { name := Str.ofString "text_codes", qualname := Str.ofString "text_codes", params := hd.s14a, body := (.stmts hd.s14b), scope := hd.s14c, globals := 3, closure := [], defaults := Value.none, kwdefaults := Value.none, pyModule := Value.str (Str.ofString "clausemill.chars") 247, code := Value.ref 113 } } ::
{ cls := Value.type "tuple", data := Data.seq #[] } ::
{ cls := Value.none, data := Data.fields #[] } ::
{ cls := Value.none, data := Data.func { name := Str.ofString "codes_text", qualname := Str.ofString "codes_text", params := hd.s15a, body := (.stmts hd.s15b), scope := hd.s15c, globals := 0, closure := [], defaults := Value.none, kwdefaults := Value.none } } ::
{ cls := Value.type "code", data := Data.fields #[Value.str (Str.ofString "codes_text") 313, Value.str (Str.ofString "codes_text") 314, Value.str (Str.ofString "/claim/cut.py") 315, Value.int 40 0, Value.int 1 0, Value.int 0 0, Value.int 0 0, Value.int 3 0, Value.ref 115, Value.bool true, Value.int 181 0, Value.ref 116, Value.none, Value.none, Value.none, Value.ref 117, Value.int 316 0, Value.int 40 0, Value.str (Str.ofString "/claim/cut.py") 317] } ::
{ cls := Value.type "function", data := Data.func { name := Str.ofString "codes_text", qualname := Str.ofString "codes_text", params := hd.s15a, body := (.stmts hd.s15b), scope := hd.s15c, globals := 3, closure := [], defaults := Value.none, kwdefaults := Value.none, pyModule := Value.str (Str.ofString "clausemill.chars") 247, code := Value.ref 118 } } ::
{ cls := Value.type "tuple", data := Data.seq #[] } ::
{ cls := Value.none, data := Data.fields #[] } ::
{ cls := Value.type "tuple", data := Data.seq #[Value.str (Str.ofString "code") 360, Value.str (Str.ofString "char") 361, Value.str (Str.ofString "place") 362] } ::
{ cls := Value.type "tuple", data := Data.seq #[] } ::
{ cls := Value.none, data := Data.func { name := Str.ofString "simple_escape", qualname := Str.ofString "simple_escape", params := hd.s34a, body := (.stmts hd.s34b), scope := hd.s34c, globals := 0, closure := [], defaults := Value.none, kwdefaults := Value.none } } ::
{ cls := Value.type "code", data := Data.fields #[Value.str (Str.ofString "simple_escape") 357, Value.str (Str.ofString "simple_escape") 358, Value.str (Str.ofString "/claim/cut.py") 359, Value.int 60 0, Value.int 1 0, Value.int 0 0, Value.int 0 0, Value.int 3 0, Value.ref 120, Value.bool true, Value.int 181 0, Value.ref 121, Value.none, Value.ref 122, Value.ref 123, Value.ref 124, Value.int 363 0, Value.int 60 0, Value.str (Str.ofString "/claim/cut.py") 364] } ::
{ cls := Value.type "function", data := Data.func { name := Str.ofString "simple_escape", qualname := Str.ofString "simple_escape", params := hd.s34a, body := (.stmts hd.s34b), scope := hd.s34c, globals := 3, closure := [], defaults := Value.none, kwdefaults := Value.none, pyModule := Value.str (Str.ofString "clausemill.tokens") 319, code := Value.ref 125 } } ::
{ cls := Value.type "tuple", data := Data.seq #[] } ::
{ cls := Value.none, data := Data.fields #[] } ::
{ cls := Value.type "tuple", data := Data.seq #[Value.str (Str.ofString "code") 369] } ::
{ cls := Value.type "tuple", data := Data.seq #[] } ::
{ cls := Value.none, data := Data.func { name := Str.ofString "numeral_base", qualname := Str.ofString "numeral_base", params := hd.s35a, body := (.stmts hd.s35b), scope := hd.s35c, globals := 0, closure := [], defaults := Value.none, kwdefaults := Value.none } } ::
{ cls := Value.type "code", data := Data.fields #[Value.str (Str.ofString "numeral_base") 366, Value.str (Str.ofString "numeral_base") 367, Value.str (Str.ofString "/claim/cut.py") 368, Value.int 68 0, Value.int 1 0, Value.int 0 0, Value.int 0 0, Value.int 3 0, Value.ref 127, Value.bool true, Value.int 181 0, Value.ref 128, Value.none, Value.ref 129, Value.ref 130, Value.ref 131, Value.int 370 0, Value.int 68 0, Value.str (Str.ofString "/claim/cut.py") 371] } ::
{ cls := Value.type "function", data := Data.func { name := Str.ofString "numeral_base", qualname := Str.ofString "numeral_base", params := hd.s35a, body := (.stmts hd.s35b), scope := hd.s35c, globals := 3, closure := [], defaults := Value.none, kwdefaults := Value.none, pyModule := Value.str (Str.ofString "clausemill.tokens") 319, code := Value.ref 132 } } ::
{ cls := Value.type "tuple", data := Data.seq #[] } ::
{ cls := Value.type "builtin_function_or_method", data := Data.fields #[Value.builtin "type.__prepare__", Value.type "type"] } ::
{ cls := Value.type "dict", data := Data.dict (List.toArray ({ hash := PyData.keyHash P (Str.ofString "__module__"), key := Value.str (Str.ofString "__module__") 380, val := Value.str (Str.ofString "clausemill.tokens") 319 } :: { hash := PyData.keyHash P (Str.ofString "__qualname__"), key := Value.str (Str.ofString "__qualname__") 382, val := Value.str (Str.ofString "Tokenizer") 381 } :: { hash := PyData.keyHash P (Str.ofString "__firstlineno__"), key := Value.str (Str.ofString "__firstlineno__") 384, val := Value.int 76 383 } :: { hash := PyData.keyHash P (Str.ofString "__init__"), key := Value.str (Str.ofString "__init__") 394, val := Value.ref 148 } :: { hash := PyData.keyHash P (Str.ofString "code_at"), key := Value.str (Str.ofString "code_at") 403, val := Value.ref 155 } :: { hash := PyData.keyHash P (Str.ofString "place"), key := Value.str (Str.ofString "place") 414, val := Value.ref 162 } :: { hash := PyData.keyHash P (Str.ofString "fault"), key := Value.str (Str.ofString "fault") 425, val := Value.ref 169 } :: { hash := PyData.keyHash P (Str.ofString "next"), key := Value.str (Str.ofString "next") 436, val := Value.ref 176 } :: { hash := PyData.keyHash P (Str.ofString "skip_clause"), key := Value.str (Str.ofString "skip_clause") 443, val := Value.ref 183 } :: { hash := PyData.keyHash P (Str.ofString "skip_layout"), key := Value.str (Str.ofString "skip_layout") 451, val := Value.ref 190 } :: { hash := PyData.keyHash P (Str.ofString "skip_row"), key := Value.str (Str.ofString "skip_row") 459, val := Value.ref 197 } :: { hash := PyData.keyHash P (Str.ofString "skip_remark"), key := Value.str (Str.ofString "skip_remark") 468, val := Value.ref 204 } :: { hash := PyData.keyHash P (Str.ofString "word"), key := Value.str (Str.ofString "word") 477, val := Value.ref 211 } :: { hash := PyData.keyHash P (Str.ofString "symbol"), key := Value.str (Str.ofString "symbol") 486, val := Value.ref 218 } :: { hash := PyData.keyHash P (Str.ofString "ends_at"), key := Value.str (Str.ofString "ends_at") 495, val := Value.ref 225 } :: { hash := PyData.keyHash P (Str.ofString "numeral"), key := Value.str (Str.ofString "numeral") 507, val := Value.ref 232 } :: { hash := PyData.keyHash P (Str.ofString "digits"), key := Value.str (Str.ofString "digits") 518, val := Value.ref 239 } :: { hash := PyData.keyHash P (Str.ofString "character"), key := Value.str (Str.ofString "character") 528, val := Value.ref 246 } :: { hash := PyData.keyHash P (Str.ofString "quoted"), key := Value.str (Str.ofString "quoted") 541, val := Value.ref 253 } :: { hash := PyData.keyHash P (Str.ofString "escape"), key := Value.str (Str.ofString "escape") 555, val := Value.ref 260 } :: { hash := PyData.keyHash P (Str.ofString "abandon"), key := Value.str (Str.ofString "abandon") 565, val := Value.ref 267 } :: { hash := PyData.keyHash P (Str.ofString "__static_attributes__"), key := Value.str (Str.ofString "__static_attributes__") 569, val := Value.ref 268 } :: [])) 22 } ::
{ cls := Value.type "tuple", data := Data.seq #[] } ::
{ cls := Value.none, data := Data.fields #[Value.int 78 0, Value.int 4 0, Value.ref 147, Value.int 83 0, Value.int 4 0, Value.ref 154, Value.int 91 0, Value.int 4 0, Value.ref 161, Value.int 104 0, Value.int 4 0, Value.ref 168, Value.int 108 0, Value.int 4 0, Value.ref 175, Value.int 142 0, Value.int 4 0, Value.ref 182, Value.int 145 0, Value.int 4 0, Value.ref 189, Value.int 157 0, Value.int 4 0, Value.ref 196, Value.int 164 0, Value.int 4 0, Value.ref 203, Value.int 176 0, Value.int 4 0, Value.ref 210, Value.int 183 0, Value.int 4 0, Value.ref 217, Value.int 193 0, Value.int 4 0, Value.ref 224, Value.int 197 0, Value.int 4 0, Value.ref 231, Value.int 212 0, Value.int 4 0, Value.ref 238, Value.int 222 0, Value.int 4 0, Value.ref 245, Value.int 243 0, Value.int 4 0, Value.ref 252, Value.int 272 0, Value.int 4 0, Value.ref 259, Value.int 297 0, Value.int 4 0, Value.ref 266] } ::
{ cls := Value.type "code", data := Data.fields #[Value.str (Str.ofString "Tokenizer") 375, Value.str (Str.ofString "Tokenizer") 376, Value.str (Str.ofString "/claim/cut.py") 377, Value.int 76 0, Value.int 0 0, Value.int 0 0, Value.int 0 0, Value.int 0 0, Value.ref 137, Value.bool false, Value.int 181 0, Value.ref 138, Value.none, Value.none, Value.none, Value.none, Value.int 378 0, Value.int 76 0, Value.str (Str.ofString "/claim/cut.py") 379] } ::
{ cls := Value.type "frame", slots := #[some (Value.ref 139), some (Value.ref 3), some (Value.ref 136), none, some (Value.str (Str.ofString "clausemill.tokens") 319), none, some (Value.ref 0)] } ::
{ cls := Value.type "tuple", data := Data.seq #[Value.int 0 385] } ::
{ cls := Value.type "tuple", data := Data.seq #[] } ::
{ cls := Value.none, data := Data.fields #[] } ::
{ cls := Value.type "tuple", data := Data.seq #[Value.str (Str.ofString "self") 389, Value.str (Str.ofString "codes") 390, Value.str (Str.ofString "at") 391] } ::
{ cls := Value.type "tuple", data := Data.seq #[] } ::
{ cls := Value.none, data := Data.func { name := Str.ofString "__init__", qualname := Str.ofString "Tokenizer.__init__", params := hd.s36m0a, body := (.stmts hd.s36m0b), scope := hd.s36m0c, globals := 0, closure := [], defaults := Value.none, kwdefaults := Value.none } } ::
{ cls := Value.type "code", data := Data.fields #[Value.str (Str.ofString "__init__") 386, Value.str (Str.ofString "Tokenizer.__init__") 387, Value.str (Str.ofString "/claim/cut.py") 388, Value.int 78 0, Value.int 3 0, Value.int 0 0, Value.int 0 0, Value.int 3 0, Value.ref 142, Value.bool true, Value.int 181 0, Value.ref 143, Value.none, Value.ref 144, Value.ref 145, Value.ref 146, Value.int 392 0, Value.int 78 0, Value.str (Str.ofString "/claim/cut.py") 393] } ::
{ cls := Value.type "function", data := Data.func { name := Str.ofString "__init__", qualname := Str.ofString "Tokenizer.__init__", params := hd.s36m0a, body := (.stmts hd.s36m0b), scope := hd.s36m0c, globals := 3, closure := [], defaults := Value.ref 141, kwdefaults := Value.none, pyModule := Value.str (Str.ofString "clausemill.tokens") 319, code := Value.ref 147 } } ::
{ cls := Value.type "tuple", data := Data.seq #[] } ::
{ cls := Value.none, data := Data.fields #[] } ::
{ cls := Value.type "tuple", data := Data.seq #[Value.str (Str.ofString "self") 398, Value.str (Str.ofString "index") 399, Value.str (Str.ofString "code") 400] } ::
{ cls := Value.type "tuple", data := Data.seq #[] } ::
{ cls := Value.none, data := Data.func { name := Str.ofString "code_at", qualname := Str.ofString "Tokenizer.code_at", params := hd.s36m1a, body := (.stmts hd.s36m1b), scope := hd.s36m1c, globals := 0, closure := [], defaults := Value.none, kwdefaults := Value.none } } ::
{ cls := Value.type "code", data := Data.fields #[Value.str (Str.ofString "code_at") 395, Value.str (Str.ofString "Tokenizer.code_at") 396, Value.str (Str.ofString "/claim/cut.py") 397, Value.int 83 0, Value.int 2 0, Value.int 0 0, Value.int 0 0, Value.int 3 0, Value.ref 149, Value.bool true, Value.int 181 0, Value.ref 150, Value.none, Value.ref 151, Value.ref 152, Value.ref 153, Value.int 401 0, Value.int 83 0, Value.str (Str.ofString "/claim/cut.py") 402] } ::
{ cls := Value.type "function", data := Data.func { name := Str.ofString "code_at", qualname := Str.ofString "Tokenizer.code_at", params := hd.s36m1a, body := (.stmts hd.s36m1b), scope := hd.s36m1c, globals := 3, closure := [], defaults := Value.none, kwdefaults := Value.none, pyModule := Value.str (Str.ofString "clausemill.tokens") 319, code := Value.ref 154 } } ::
{ cls := Value.type "tuple", data := Data.seq #[] } ::
{ cls := Value.none, data := Data.fields #[] } ::
{ cls := Value.type "tuple", data := Data.seq #[Value.str (Str.ofString "self") 407, Value.str (Str.ofString "at") 408, Value.str (Str.ofString "row") 409, Value.str (Str.ofString "column") 410, Value.str (Str.ofString "index") 411] } ::
{ cls := Value.type "tuple", data := Data.seq #[] } ::
{ cls := Value.none, data := Data.func { name := Str.ofString "place", qualname := Str.ofString "Tokenizer.place", params := hd.s36m2a, body := (.stmts hd.s36m2b), scope := hd.s36m2c, globals := 0, closure := [], defaults := Value.none, kwdefaults := Value.none } } ::
{ cls := Value.type "code", data := Data.fields #[Value.str (Str.ofString "place") 404, Value.str (Str.ofString "Tokenizer.place") 405, Value.str (Str.ofString "/claim/cut.py") 406, Value.int 91 0, Value.int 2 0, Value.int 0 0, Value.int 0 0, Value.int 3 0, Value.ref 156, Value.bool true, Value.int 181 0, Value.ref 157, Value.none, Value.ref 158, Value.ref 159, Value.ref 160, Value.int 412 0, Value.int 91 0, Value.str (Str.ofString "/claim/cut.py") 413] } ::
{ cls := Value.type "function", data := Data.func { name := Str.ofString "place", qualname := Str.ofString "Tokenizer.place", params := hd.s36m2a, body := (.stmts hd.s36m2b), scope := hd.s36m2c, globals := 3, closure := [], defaults := Value.none, kwdefaults := Value.none, pyModule := Value.str (Str.ofString "clausemill.tokens") 319, code := Value.ref 161 } } ::
{ cls := Value.type "tuple", data := Data.seq #[] } ::
{ cls := Value.none, data := Data.fields #[] } ::
{ cls := Value.type "tuple", data := Data.seq #[Value.str (Str.ofString "self") 418, Value.str (Str.ofString "kind") 419, Value.str (Str.ofString "at") 420, Value.str (Str.ofString "row") 421, Value.str (Str.ofString "column") 422] } ::
{ cls := Value.type "tuple", data := Data.seq #[] } ::
{ cls := Value.none, data := Data.func { name := Str.ofString "fault", qualname := Str.ofString "Tokenizer.fault", params := hd.s36m3a, body := (.stmts hd.s36m3b), scope := hd.s36m3c, globals := 0, closure := [], defaults := Value.none, kwdefaults := Value.none } } ::
{ cls := Value.type "code", data := Data.fields #[Value.str (Str.ofString "fault") 415, Value.str (Str.ofString "Tokenizer.fault") 416, Value.str (Str.ofString "/claim/cut.py") 417, Value.int 104 0, Value.int 3 0, Value.int 0 0, Value.int 0 0, Value.int 3 0, Value.ref 163, Value.bool true, Value.int 181 0, Value.ref 164, Value.none, Value.ref 165, Value.ref 166, Value.ref 167, Value.int 423 0, Value.int 104 0, Value.str (Str.ofString "/claim/cut.py") 424] } ::
{ cls := Value.type "function", data := Data.func { name := Str.ofString "fault", qualname := Str.ofString "Tokenizer.fault", params := hd.s36m3a, body := (.stmts hd.s36m3b), scope := hd.s36m3c, globals := 3, closure := [], defaults := Value.none, kwdefaults := Value.none, pyModule := Value.str (Str.ofString "clausemill.tokens") 319, code := Value.ref 168 } } ::
{ cls := Value.type "tuple", data := Data.seq #[] } ::
{ cls := Value.none, data := Data.fields #[] } ::
{ cls := Value.type "tuple", data := Data.seq #[Value.str (Str.ofString "self") 429, Value.str (Str.ofString "begun") 430, Value.str (Str.ofString "at") 431, Value.str (Str.ofString "code") 432, Value.str (Str.ofString "char") 433] } ::
{ cls := Value.type "tuple", data := Data.seq #[] } ::
{ cls := Value.none, data := Data.func { name := Str.ofString "next", qualname := Str.ofString "Tokenizer.next", params := hd.s36m4a, body := (.stmts hd.s36m4b), scope := hd.s36m4c, globals := 0, closure := [], defaults := Value.none, kwdefaults := Value.none } } ::
{ cls := Value.type "code", data := Data.fields #[Value.str (Str.ofString "next") 426, Value.str (Str.ofString "Tokenizer.next") 427, Value.str (Str.ofString "/claim/cut.py") 428, Value.int 108 0, Value.int 1 0, Value.int 0 0, Value.int 0 0, Value.int 3 0, Value.ref 170, Value.bool true, Value.int 181 0, Value.ref 171, Value.none, Value.ref 172, Value.ref 173, Value.ref 174, Value.int 434 0, Value.int 108 0, Value.str (Str.ofString "/claim/cut.py") 435] } ::
{ cls := Value.type "function", data := Data.func { name := Str.ofString "next", qualname := Str.ofString "Tokenizer.next", params := hd.s36m4a, body := (.stmts hd.s36m4b), scope := hd.s36m4c, globals := 3, closure := [], defaults := Value.none, kwdefaults := Value.none, pyModule := Value.str (Str.ofString "clausemill.tokens") 319, code := Value.ref 175 } } ::
{ cls := Value.type "tuple", data := Data.seq #[] } ::
{ cls := Value.none, data := Data.fields #[] } ::
{ cls := Value.type "tuple", data := Data.seq #[Value.str (Str.ofString "self") 440] } ::
{ cls := Value.type "tuple", data := Data.seq #[] } ::
{ cls := Value.none, data := Data.func { name := Str.ofString "skip_clause", qualname := Str.ofString "Tokenizer.skip_clause", params := hd.s36m5a, body := (.stmts hd.s36m5b), scope := hd.s36m5c, globals := 0, closure := [], defaults := Value.none, kwdefaults := Value.none } } ::
{ cls := Value.type "code", data := Data.fields #[Value.str (Str.ofString "skip_clause") 437, Value.str (Str.ofString "Tokenizer.skip_clause") 438, Value.str (Str.ofString "/claim/cut.py") 439, Value.int 142 0, Value.int 1 0, Value.int 0 0, Value.int 0 0, Value.int 3 0, Value.ref 177, Value.bool true, Value.int 181 0, Value.ref 178, Value.none, Value.ref 179, Value.ref 180, Value.ref 181, Value.int 441 0, Value.int 142 0, Value.str (Str.ofString "/claim/cut.py") 442] } ::
{ cls := Value.type "function", data := Data.func { name := Str.ofString "skip_clause", qualname := Str.ofString "Tokenizer.skip_clause", params := hd.s36m5a, body := (.stmts hd.s36m5b), scope := hd.s36m5c, globals := 3, closure := [], defaults := Value.none, kwdefaults := Value.none, pyModule := Value.str (Str.ofString "clausemill.tokens") 319, code := Value.ref 182 } } ::
{ cls := Value.type "tuple", data := Data.seq #[] } ::
{ cls := Value.none, data := Data.fields #[] } ::
{ cls := Value.type "tuple", data := Data.seq #[Value.str (Str.ofString "self") 447, Value.str (Str.ofString "code") 448] } ::
{ cls := Value.type "tuple", data := Data.seq #[] } ::
{ cls := Value.none, data := Data.func { name := Str.ofString "skip_layout", qualname := Str.ofString "Tokenizer.skip_layout", params := hd.s36m6a, body := (.stmts hd.s36m6b), scope := hd.s36m6c, globals := 0, closure := [], defaults := Value.none, kwdefaults := Value.none } } ::
{ cls := Value.type "code", data := Data.fields #[Value.str (Str.ofString "skip_layout") 444, Value.str (Str.ofString "Tokenizer.skip_layout") 445, Value.str (Str.ofString "/claim/cut.py") 446, Value.int 145 0, Value.int 1 0, Value.int 0 0, Value.int 0 0, Value.int 3 0, Value.ref 184, Value.bool true, Value.int 181 0, Value.ref 185, Value.none, Value.ref 186, Value.ref 187, Value.ref 188, Value.int 449 0, Value.int 145 0, Value.str (Str.ofString "/claim/cut.py") 450] } ::
{ cls := Value.type "function", data := Data.func { name := Str.ofString "skip_layout", qualname := Str.ofString "Tokenizer.skip_layout", params := hd.s36m6a, body := (.stmts hd.s36m6b), scope := hd.s36m6c, globals := 3, closure := [], defaults := Value.none, kwdefaults := Value.none, pyModule := Value.str (Str.ofString "clausemill.tokens") 319, code := Value.ref 189 } } ::
{ cls := Value.type "tuple", data := Data.seq #[] } ::
{ cls := Value.none, data := Data.fields #[] } ::
{ cls := Value.type "tuple", data := Data.seq #[Value.str (Str.ofString "self") 455, Value.str (Str.ofString "code") 456] } ::
{ cls := Value.type "tuple", data := Data.seq #[] } ::
{ cls := Value.none, data := Data.func { name := Str.ofString "skip_row", qualname := Str.ofString "Tokenizer.skip_row", params := hd.s36m7a, body := (.stmts hd.s36m7b), scope := hd.s36m7c, globals := 0, closure := [], defaults := Value.none, kwdefaults := Value.none } } ::
{ cls := Value.type "code", data := Data.fields #[Value.str (Str.ofString "skip_row") 452, Value.str (Str.ofString "Tokenizer.skip_row") 453, Value.str (Str.ofString "/claim/cut.py") 454, Value.int 157 0, Value.int 1 0, Value.int 0 0, Value.int 0 0, Value.int 3 0, Value.ref 191, Value.bool true, Value.int 181 0, Value.ref 192, Value.none, Value.ref 193, Value.ref 194, Value.ref 195, Value.int 457 0, Value.int 157 0, Value.str (Str.ofString "/claim/cut.py") 458] } ::
{ cls := Value.type "function", data := Data.func { name := Str.ofString "skip_row", qualname := Str.ofString "Tokenizer.skip_row", params := hd.s36m7a, body := (.stmts hd.s36m7b), scope := hd.s36m7c, globals := 3, closure := [], defaults := Value.none, kwdefaults := Value.none, pyModule := Value.str (Str.ofString "clausemill.tokens") 319, code := Value.ref 196 } } ::
{ cls := Value.type "tuple", data := Data.seq #[] } ::
{ cls := Value.none, data := Data.fields #[] } ::
{ cls := Value.type "tuple", data := Data.seq #[Value.str (Str.ofString "self") 463, Value.str (Str.ofString "begun") 464, Value.str (Str.ofString "code") 465] } ::
{ cls := Value.type "tuple", data := Data.seq #[] } ::
{ cls := Value.none, data := Data.func { name := Str.ofString "skip_remark", qualname := Str.ofString "Tokenizer.skip_remark", params := hd.s36m8a, body := (.stmts hd.s36m8b), scope := hd.s36m8c, globals := 0, closure := [], defaults := Value.none, kwdefaults := Value.none } } ::
{ cls := Value.type "code", data := Data.fields #[Value.str (Str.ofString "skip_remark") 460, Value.str (Str.ofString "Tokenizer.skip_remark") 461, Value.str (Str.ofString "/claim/cut.py") 462, Value.int 164 0, Value.int 1 0, Value.int 0 0, Value.int 0 0, Value.int 3 0, Value.ref 198, Value.bool true, Value.int 181 0, Value.ref 199, Value.none, Value.ref 200, Value.ref 201, Value.ref 202, Value.int 466 0, Value.int 164 0, Value.str (Str.ofString "/claim/cut.py") 467] } ::
{ cls := Value.type "function", data := Data.func { name := Str.ofString "skip_remark", qualname := Str.ofString "Tokenizer.skip_remark", params := hd.s36m8a, body := (.stmts hd.s36m8b), scope := hd.s36m8c, globals := 3, closure := [], defaults := Value.none, kwdefaults := Value.none, pyModule := Value.str (Str.ofString "clausemill.tokens") 319, code := Value.ref 203 } } ::
{ cls := Value.type "tuple", data := Data.seq #[] } ::
{ cls := Value.none, data := Data.fields #[] } ::
{ cls := Value.type "tuple", data := Data.seq #[Value.str (Str.ofString "self") 472, Value.str (Str.ofString "at") 473, Value.str (Str.ofString "end") 474] } ::
{ cls := Value.type "tuple", data := Data.seq #[] } ::
{ cls := Value.none, data := Data.func { name := Str.ofString "word", qualname := Str.ofString "Tokenizer.word", params := hd.s36m9a, body := (.stmts hd.s36m9b), scope := hd.s36m9c, globals := 0, closure := [], defaults := Value.none, kwdefaults := Value.none } } ::
{ cls := Value.type "code", data := Data.fields #[Value.str (Str.ofString "word") 469, Value.str (Str.ofString "Tokenizer.word") 470, Value.str (Str.ofString "/claim/cut.py") 471, Value.int 176 0, Value.int 2 0, Value.int 0 0, Value.int 0 0, Value.int 3 0, Value.ref 205, Value.bool true, Value.int 181 0, Value.ref 206, Value.none, Value.ref 207, Value.ref 208, Value.ref 209, Value.int 475 0, Value.int 176 0, Value.str (Str.ofString "/claim/cut.py") 476] } ::
{ cls := Value.type "function", data := Data.func { name := Str.ofString "word", qualname := Str.ofString "Tokenizer.word", params := hd.s36m9a, body := (.stmts hd.s36m9b), scope := hd.s36m9c, globals := 3, closure := [], defaults := Value.none, kwdefaults := Value.none, pyModule := Value.str (Str.ofString "clausemill.tokens") 319, code := Value.ref 210 } } ::
{ cls := Value.type "tuple", data := Data.seq #[] } ::
{ cls := Value.none, data := Data.fields #[] } ::
{ cls := Value.type "tuple", data := Data.seq #[Value.str (Str.ofString "self") 481, Value.str (Str.ofString "at") 482, Value.str (Str.ofString "end") 483] } ::
{ cls := Value.type "tuple", data := Data.seq #[] } ::
{ cls := Value.none, data := Data.func { name := Str.ofString "symbol", qualname := Str.ofString "Tokenizer.symbol", params := hd.s36m10a, body := (.stmts hd.s36m10b), scope := hd.s36m10c, globals := 0, closure := [], defaults := Value.none, kwdefaults := Value.none } } ::
{ cls := Value.type "code", data := Data.fields #[Value.str (Str.ofString "symbol") 478, Value.str (Str.ofString "Tokenizer.symbol") 479, Value.str (Str.ofString "/claim/cut.py") 480, Value.int 183 0, Value.int 2 0, Value.int 0 0, Value.int 0 0, Value.int 3 0, Value.ref 212, Value.bool true, Value.int 181 0, Value.ref 213, Value.none, Value.ref 214, Value.ref 215, Value.ref 216, Value.int 484 0, Value.int 183 0, Value.str (Str.ofString "/claim/cut.py") 485] } ::
{ cls := Value.type "function", data := Data.func { name := Str.ofString "symbol", qualname := Str.ofString "Tokenizer.symbol", params := hd.s36m10a, body := (.stmts hd.s36m10b), scope := hd.s36m10c, globals := 3, closure := [], defaults := Value.none, kwdefaults := Value.none, pyModule := Value.str (Str.ofString "clausemill.tokens") 319, code := Value.ref 217 } } ::
{ cls := Value.type "tuple", data := Data.seq #[] } ::
{ cls := Value.none, data := Data.fields #[] } ::
{ cls := Value.type "tuple", data := Data.seq #[Value.str (Str.ofString "self") 490, Value.str (Str.ofString "index") 491, Value.str (Str.ofString "code") 492] } ::
{ cls := Value.type "tuple", data := Data.seq #[] } ::
{ cls := Value.none, data := Data.func { name := Str.ofString "ends_at", qualname := Str.ofString "Tokenizer.ends_at", params := hd.s36m11a, body := (.stmts hd.s36m11b), scope := hd.s36m11c, globals := 0, closure := [], defaults := Value.none, kwdefaults := Value.none } } ::
{ cls := Value.type "code", data := Data.fields #[Value.str (Str.ofString "ends_at") 487, Value.str (Str.ofString "Tokenizer.ends_at") 488, Value.str (Str.ofString "/claim/cut.py") 489, Value.int 193 0, Value.int 2 0, Value.int 0 0, Value.int 0 0, Value.int 3 0, Value.ref 219, Value.bool true, Value.int 181 0, Value.ref 220, Value.none, Value.ref 221, Value.ref 222, Value.ref 223, Value.int 493 0, Value.int 193 0, Value.str (Str.ofString "/claim/cut.py") 494] } ::
{ cls := Value.type "function", data := Data.func { name := Str.ofString "ends_at", qualname := Str.ofString "Tokenizer.ends_at", params := hd.s36m11a, body := (.stmts hd.s36m11b), scope := hd.s36m11c, globals := 3, closure := [], defaults := Value.none, kwdefaults := Value.none, pyModule := Value.str (Str.ofString "clausemill.tokens") 319, code := Value.ref 224 } } ::
{ cls := Value.type "tuple", data := Data.seq #[] } ::
{ cls := Value.none, data := Data.fields #[] } ::
{ cls := Value.type "tuple", data := Data.seq #[Value.str (Str.ofString "self") 499, Value.str (Str.ofString "at") 500, Value.str (Str.ofString "mark") 501, Value.str (Str.ofString "base") 502, Value.str (Str.ofString "digit") 503, Value.str (Str.ofString "value") 504] } ::
{ cls := Value.type "tuple", data := Data.seq #[] } ::
{ cls := Value.none, data := Data.func { name := Str.ofString "numeral", qualname := Str.ofString "Tokenizer.numeral", params := hd.s36m12a, body := (.stmts hd.s36m12b), scope := hd.s36m12c, globals := 0, closure := [], defaults := Value.none, kwdefaults := Value.none } } ::
{ cls := Value.type "code", data := Data.fields #[Value.str (Str.ofString "numeral") 496, Value.str (Str.ofString "Tokenizer.numeral") 497, Value.str (Str.ofString "/claim/cut.py") 498, Value.int 197 0, Value.int 2 0, Value.int 0 0, Value.int 0 0, Value.int 3 0, Value.ref 226, Value.bool true, Value.int 181 0, Value.ref 227, Value.none, Value.ref 228, Value.ref 229, Value.ref 230, Value.int 505 0, Value.int 197 0, Value.str (Str.ofString "/claim/cut.py") 506] } ::
{ cls := Value.type "function", data := Data.func { name := Str.ofString "numeral", qualname := Str.ofString "Tokenizer.numeral", params := hd.s36m12a, body := (.stmts hd.s36m12b), scope := hd.s36m12c, globals := 3, closure := [], defaults := Value.none, kwdefaults := Value.none, pyModule := Value.str (Str.ofString "clausemill.tokens") 319, code := Value.ref 231 } } ::
{ cls := Value.type "tuple", data := Data.seq #[] } ::
{ cls := Value.none, data := Data.fields #[] } ::
{ cls := Value.type "tuple", data := Data.seq #[Value.str (Str.ofString "self") 511, Value.str (Str.ofString "index") 512, Value.str (Str.ofString "base") 513, Value.str (Str.ofString "value") 514, Value.str (Str.ofString "digit") 515] } ::
{ cls := Value.type "tuple", data := Data.seq #[] } ::
{ cls := Value.none, data := Data.func { name := Str.ofString "digits", qualname := Str.ofString "Tokenizer.digits", params := hd.s36m13a, body := (.stmts hd.s36m13b), scope := hd.s36m13c, globals := 0, closure := [], defaults := Value.none, kwdefaults := Value.none } } ::
{ cls := Value.type "code", data := Data.fields #[Value.str (Str.ofString "digits") 508, Value.str (Str.ofString "Tokenizer.digits") 509, Value.str (Str.ofString "/claim/cut.py") 510, Value.int 212 0, Value.int 3 0, Value.int 0 0, Value.int 0 0, Value.int 3 0, Value.ref 233, Value.bool true, Value.int 181 0, Value.ref 234, Value.none, Value.ref 235, Value.ref 236, Value.ref 237, Value.int 516 0, Value.int 212 0, Value.str (Str.ofString "/claim/cut.py") 517] } ::
{ cls := Value.type "function", data := Data.func { name := Str.ofString "digits", qualname := Str.ofString "Tokenizer.digits", params := hd.s36m13a, body := (.stmts hd.s36m13b), scope := hd.s36m13c, globals := 3, closure := [], defaults := Value.none, kwdefaults := Value.none, pyModule := Value.str (Str.ofString "clausemill.tokens") 319, code := Value.ref 238 } } ::
{ cls := Value.type "tuple", data := Data.seq #[] } ::
{ cls := Value.none, data := Data.fields #[] } ::
{ cls := Value.type "tuple", data := Data.seq #[Value.str (Str.ofString "self") 522, Value.str (Str.ofString "at") 523, Value.str (Str.ofString "code") 524, Value.str (Str.ofString "value") 525] } ::
{ cls := Value.type "tuple", data := Data.seq #[] } ::
{ cls := Value.none, data := Data.func { name := Str.ofString "character", qualname := Str.ofString "Tokenizer.character", params := hd.s36m14a, body := (.stmts hd.s36m14b), scope := hd.s36m14c, globals := 0, closure := [], defaults := Value.none, kwdefaults := Value.none } } ::
{ cls := Value.type "code", data := Data.fields #[Value.str (Str.ofString "character") 519, Value.str (Str.ofString "Tokenizer.character") 520, Value.str (Str.ofString "/claim/cut.py") 521, Value.int 222 0, Value.int 2 0, Value.int 0 0, Value.int 0 0, Value.int 3 0, Value.ref 240, Value.bool true, Value.int 181 0, Value.ref 241, Value.none, Value.ref 242, Value.ref 243, Value.ref 244, Value.int 526 0, Value.int 222 0, Value.str (Str.ofString "/claim/cut.py") 527] } ::
{ cls := Value.type "function", data := Data.func { name := Str.ofString "character", qualname := Str.ofString "Tokenizer.character", params := hd.s36m14a, body := (.stmts hd.s36m14b), scope := hd.s36m14c, globals := 3, closure := [], defaults := Value.none, kwdefaults := Value.none, pyModule := Value.str (Str.ofString "clausemill.tokens") 319, code := Value.ref 245 } } ::
{ cls := Value.type "tuple", data := Data.seq #[] } ::
{ cls := Value.none, data := Data.fields #[] } ::
{ cls := Value.type "tuple", data := Data.seq #[Value.str (Str.ofString "self") 532, Value.str (Str.ofString "begun") 533, Value.str (Str.ofString "quote") 534, Value.str (Str.ofString "codes") 535, Value.str (Str.ofString "at") 536, Value.str (Str.ofString "code") 537, Value.str (Str.ofString "value") 538] } ::
{ cls := Value.type "tuple", data := Data.seq #[] } ::
{ cls := Value.none, data := Data.func { name := Str.ofString "quoted", qualname := Str.ofString "Tokenizer.quoted", params := hd.s36m15a, body := (.stmts hd.s36m15b), scope := hd.s36m15c, globals := 0, closure := [], defaults := Value.none, kwdefaults := Value.none } } ::
{ cls := Value.type "code", data := Data.fields #[Value.str (Str.ofString "quoted") 529, Value.str (Str.ofString "Tokenizer.quoted") 530, Value.str (Str.ofString "/claim/cut.py") 531, Value.int 243 0, Value.int 3 0, Value.int 0 0, Value.int 0 0, Value.int 3 0, Value.ref 247, Value.bool true, Value.int 181 0, Value.ref 248, Value.none, Value.ref 249, Value.ref 250, Value.ref 251, Value.int 539 0, Value.int 243 0, Value.str (Str.ofString "/claim/cut.py") 540] } ::
{ cls := Value.type "function", data := Data.func { name := Str.ofString "quoted", qualname := Str.ofString "Tokenizer.quoted", params := hd.s36m15a, body := (.stmts hd.s36m15b), scope := hd.s36m15c, globals := 3, closure := [], defaults := Value.none, kwdefaults := Value.none, pyModule := Value.str (Str.ofString "clausemill.tokens") 319, code := Value.ref 252 } } ::
{ cls := Value.type "tuple", data := Data.seq #[] } ::
{ cls := Value.none, data := Data.fields #[] } ::
{ cls := Value.type "tuple", data := Data.seq #[Value.str (Str.ofString "self") 545, Value.str (Str.ofString "index") 546, Value.str (Str.ofString "code") 547, Value.str (Str.ofString "simple") 548, Value.str (Str.ofString "base") 549, Value.str (Str.ofString "begun") 550, Value.str (Str.ofString "value") 551, Value.str (Str.ofString "digit") 552] } ::
{ cls := Value.type "tuple", data := Data.seq #[] } ::
{ cls := Value.none, data := Data.func { name := Str.ofString "escape", qualname := Str.ofString "Tokenizer.escape", params := hd.s36m16a, body := (.stmts hd.s36m16b), scope := hd.s36m16c, globals := 0, closure := [], defaults := Value.none, kwdefaults := Value.none } } ::
{ cls := Value.type "code", data := Data.fields #[Value.str (Str.ofString "escape") 542, Value.str (Str.ofString "Tokenizer.escape") 543, Value.str (Str.ofString "/claim/cut.py") 544, Value.int 272 0, Value.int 1 0, Value.int 0 0, Value.int 0 0, Value.int 3 0, Value.ref 254, Value.bool true, Value.int 181 0, Value.ref 255, Value.none, Value.ref 256, Value.ref 257, Value.ref 258, Value.int 553 0, Value.int 272 0, Value.str (Str.ofString "/claim/cut.py") 554] } ::
{ cls := Value.type "function", data := Data.func { name := Str.ofString "escape", qualname := Str.ofString "Tokenizer.escape", params := hd.s36m16a, body := (.stmts hd.s36m16b), scope := hd.s36m16c, globals := 3, closure := [], defaults := Value.none, kwdefaults := Value.none, pyModule := Value.str (Str.ofString "clausemill.tokens") 319, code := Value.ref 259 } } ::
{ cls := Value.type "tuple", data := Data.seq #[] } ::
{ cls := Value.none, data := Data.fields #[] } ::
{ cls := Value.type "tuple", data := Data.seq #[Value.str (Str.ofString "self") 559, Value.str (Str.ofString "quote") 560, Value.str (Str.ofString "code") 561, Value.str (Str.ofString "follower") 562] } ::
{ cls := Value.type "tuple", data := Data.seq #[] } ::
{ cls := Value.none, data := Data.func { name := Str.ofString "abandon", qualname := Str.ofString "Tokenizer.abandon", params := hd.s36m17a, body := (.stmts hd.s36m17b), scope := hd.s36m17c, globals := 0, closure := [], defaults := Value.none, kwdefaults := Value.none } } ::
{ cls := Value.type "code", data := Data.fields #[Value.str (Str.ofString "abandon") 556, Value.str (Str.ofString "Tokenizer.abandon") 557, Value.str (Str.ofString "/claim/cut.py") 558, Value.int 297 0, Value.int 2 0, Value.int 0 0, Value.int 0 0, Value.int 3 0, Value.ref 261, Value.bool true, Value.int 181 0, Value.ref 262, Value.none, Value.ref 263, Value.ref 264, Value.ref 265, Value.int 563 0, Value.int 297 0, Value.str (Str.ofString "/claim/cut.py") 564] } ::
{ cls := Value.type "function", data := Data.func { name := Str.ofString "abandon", qualname := Str.ofString "Tokenizer.abandon", params := hd.s36m17a, body := (.stmts hd.s36m17b), scope := hd.s36m17c, globals := 3, closure := [], defaults := Value.none, kwdefaults := Value.none, pyModule := Value.str (Str.ofString "clausemill.tokens") 319, code := Value.ref 266 } } ::
{ cls := Value.type "tuple", data := Data.seq #[Value.str (Str.ofString "at") 566, Value.str (Str.ofString "codes") 567, Value.str (Str.ofString "origin") 568] } ::
{ cls := Value.type "dict", data := Data.dict (List.toArray ({ hash := PyData.keyHash P (Str.ofString "__module__"), key := Value.str (Str.ofString "__module__") 380, val := Value.str (Str.ofString "clausemill.tokens") 319 } :: { hash := PyData.keyHash P (Str.ofString "__firstlineno__"), key := Value.str (Str.ofString "__firstlineno__") 384, val := Value.int 76 383 } :: { hash := PyData.keyHash P (Str.ofString "__init__"), key := Value.str (Str.ofString "__init__") 394, val := Value.ref 148 } :: { hash := PyData.keyHash P (Str.ofString "code_at"), key := Value.str (Str.ofString "code_at") 403, val := Value.ref 155 } :: { hash := PyData.keyHash P (Str.ofString "place"), key := Value.str (Str.ofString "place") 414, val := Value.ref 162 } :: { hash := PyData.keyHash P (Str.ofString "fault"), key := Value.str (Str.ofString "fault") 425, val := Value.ref 169 } :: { hash := PyData.keyHash P (Str.ofString "next"), key := Value.str (Str.ofString "next") 436, val := Value.ref 176 } :: { hash := PyData.keyHash P (Str.ofString "skip_clause"), key := Value.str (Str.ofString "skip_clause") 443, val := Value.ref 183 } :: { hash := PyData.keyHash P (Str.ofString "skip_layout"), key := Value.str (Str.ofString "skip_layout") 451, val := Value.ref 190 } :: { hash := PyData.keyHash P (Str.ofString "skip_row"), key := Value.str (Str.ofString "skip_row") 459, val := Value.ref 197 } :: { hash := PyData.keyHash P (Str.ofString "skip_remark"), key := Value.str (Str.ofString "skip_remark") 468, val := Value.ref 204 } :: { hash := PyData.keyHash P (Str.ofString "word"), key := Value.str (Str.ofString "word") 477, val := Value.ref 211 } :: { hash := PyData.keyHash P (Str.ofString "symbol"), key := Value.str (Str.ofString "symbol") 486, val := Value.ref 218 } :: { hash := PyData.keyHash P (Str.ofString "ends_at"), key := Value.str (Str.ofString "ends_at") 495, val := Value.ref 225 } :: { hash := PyData.keyHash P (Str.ofString "numeral"), key := Value.str (Str.ofString "numeral") 507, val := Value.ref 232 } :: { hash := PyData.keyHash P (Str.ofString "digits"), key := Value.str (Str.ofString "digits") 518, val := Value.ref 239 } :: { hash := PyData.keyHash P (Str.ofString "character"), key := Value.str (Str.ofString "character") 528, val := Value.ref 246 } :: { hash := PyData.keyHash P (Str.ofString "quoted"), key := Value.str (Str.ofString "quoted") 541, val := Value.ref 253 } :: { hash := PyData.keyHash P (Str.ofString "escape"), key := Value.str (Str.ofString "escape") 555, val := Value.ref 260 } :: { hash := PyData.keyHash P (Str.ofString "abandon"), key := Value.str (Str.ofString "abandon") 565, val := Value.ref 267 } :: { hash := PyData.keyHash P (Str.ofString "__static_attributes__"), key := Value.str (Str.ofString "__static_attributes__") 569, val := Value.ref 268 } :: { hash := PyData.keyHash P (Str.ofString "__dict__"), key := Value.str (Str.ofString "__dict__") 571, val := Value.ref 271 } :: { hash := PyData.keyHash P (Str.ofString "__weakref__"), key := Value.str (Str.ofString "__weakref__") 573, val := Value.ref 272 } :: { hash := PyData.keyHash P (Str.ofString "__doc__"), key := Value.str (Str.ofString "__doc__") 574, val := Value.none } :: [])) 4 } ::
{ cls := Value.type "type", data := Data.cls { name := Str.ofString "Tokenizer", bases := [Value.type "object"], mro := [Value.ref 270, Value.type "object"], ns := 269, qualname := Str.ofString "Tokenizer" }, slots := #[none, none, some (Value.str (Str.ofString "Tokenizer") 373), some (Value.str (Str.ofString "Tokenizer") 381), some (Value.builtin "object.__new__"), some (Value.bool true)] } ::
{ cls := Value.type "getset_descriptor", data := Data.fields #[Value.str (Str.ofString "__dict__") 570, Value.ref 270, Value.builtin "function.__dict__", Value.builtin "function.__dict__#set"] } ::
{ cls := Value.type "getset_descriptor", data := Data.fields #[Value.str (Str.ofString "__weakref__") 572, Value.ref 270, Value.builtin "ExceptionGroup.__weakref__", Value.none] } ::
{ cls := Value.type "super", data := Data.fields #[Value.ref 270, Value.ref 270, Value.ref 270] } ::
{ cls := Value.type "builtin_function_or_method", data := Data.fields #[Value.builtin "object.__init_subclass__", Value.ref 270] } ::
{ cls := Value.type "tuple", data := Data.seq #[] } ::
{ cls := Value.none, data := Data.fields #[] } ::
{ cls := Value.type "tuple", data := Data.seq #[Value.str (Str.ofString "codes") 580, Value.str (Str.ofString "tokenizer") 581, Value.str (Str.ofString "sign") 582, Value.str (Str.ofString "token") 583, Value.str (Str.ofString "expected") 584] } ::
{ cls := Value.type "tuple", data := Data.seq #[] } ::
{ cls := Value.none, data := Data.func { name := Str.ofString "read_number", qualname := Str.ofString "read_number", params := hd.s37a, body := (.stmts hd.s37b), scope := hd.s37c, globals := 0, closure := [], defaults := Value.none, kwdefaults := Value.none } } ::
{ cls := Value.type "code", data := Data.fields #[Value.str (Str.ofString "read_number") 577, Value.str (Str.ofString "read_number") 578, Value.str (Str.ofString "/claim/cut.py") 579, Value.int 312 0, Value.int 1 0, Value.int 0 0, Value.int 0 0, Value.int 3 0, Value.ref 275, Value.bool true, Value.int 181 0, Value.ref 276, Value.none, Value.ref 277, Value.ref 278, Value.ref 279, Value.int 585 0, Value.int 312 0, Value.str (Str.ofString "/claim/cut.py") 586] } ::
{ cls := Value.type "function", data := Data.func { name := Str.ofString "read_number", qualname := Str.ofString "read_number", params := hd.s37a, body := (.stmts hd.s37b), scope := hd.s37c, globals := 3, closure := [], defaults := Value.none, kwdefaults := Value.none, pyModule := Value.str (Str.ofString "clausemill.tokens") 319, code := Value.ref 280 } } ::
{ cls := Value.type "tuple", data := Data.seq #[] } ::
{ cls := Value.none, data := Data.fields #[] } ::
{ cls := Value.none, data := Data.func { name := Str.ofString "law", qualname := Str.ofString "law", params := hd.s39a, body := (.stmts hd.s39b), scope := hd.s39c, globals := 0, closure := [], defaults := Value.none, kwdefaults := Value.none } } ::
{ cls := Value.type "code", data := Data.fields #[Value.str (Str.ofString "law") 590, Value.str (Str.ofString "law") 591, Value.str (Str.ofString "/claim/cut.py") 592, Value.int 329 0, Value.int 1 0, Value.int 0 0, Value.int 0 0, Value.int 3 0, Value.ref 282, Value.bool true, Value.int 181 0, Value.ref 283, Value.none, Value.none, Value.none, Value.ref 284, Value.int 593 0, Value.int 329 0, Value.str (Str.ofString "/claim/cut.py") 594] } ::
{ cls := Value.type "function", data := Data.func { name := Str.ofString "law", qualname := Str.ofString "law", params := hd.s39a, body := (.stmts hd.s39b), scope := hd.s39c, globals := 3, closure := [], defaults := Value.none, kwdefaults := Value.none, pyModule := Value.str (Str.ofString "law_rr0020_01") 588, code := Value.ref 285 } } :: []), {}⟩
theorem hd.said : OpenLaw.wellSaid PySem.Challenge.rw_rr0020_01 = true := by first | (rewrite [PySem.W.Fast.te9446332074065402090]; kernel_rfl) | kernel_rfl
theorem hd.boot1 : opening hd.p = plainProg hd.p.main.scope.names := by kernel_rfl
theorem hd.boot2 : ∀ s, fenceModules? hd.p s = some s := fun s => by kernel_rfl
theorem hd.size : ∀ w : World, ((boot_heap w.params).isNs mainGlobals && (Array.mk [] : Array GenState).size == 0, (boot_heap w.params).objs.size, (boot_heap w.params).nsMap mainGlobals "__annotations__") = (true, 11, some (.ref 6)) := fun w => by kernel_rfl
theorem hd.run : ∀ (w : World) (os : OsState), topRun treeTable hd.p w 11 (some (.ref 6)) 3912 ⟨boot_heap w.params, Array.mk [], boot_drawn, boot_toks, os⟩ (topStub hd.p) = some (⟨hd.heap1 w.params, Array.mk [], boot_drawn, 596, os⟩ : Shared) := fun w os => by first | (rewrite [PySem.W.Fast.te14082659384304107361, PySem.W.Fast.te14364793385576792824]; kernel_rfl) | kernel_rfl
theorem hd.look1 : ∀ (w : World) (os : OsState), (staticsOk (importedModules hd.p.main.body) (boot_heap w.params) (hd.heap1 w.params) && namesBound hd.p (hd.heap1 w.params) && gensDone (⟨hd.heap1 w.params, Array.mk [], boot_drawn, 596, os⟩ : Shared) && laidKept (boot_heap w.params) (hd.heap1 w.params)) = true := fun w os => by kernel_rfl
theorem hd.look3 : ∀ (w : World) (os : OsState), hd.hook.obs (⟨hd.heap1 w.params, Array.mk [], boot_drawn, 596, os⟩ : Shared) = hd.hook.val w := fun w os => by kernel_rfl
theorem hd.look2 : ∀ (w : World) (os : OsState), openSeen hd.view_39 [] (importedModules hd.p.main.body) (fun s => xlAt hd.view_39 [] s && recOk PySem.Challenge.rw_rr0020_01.row.records s) true (⟨hd.heap1 w.params, Array.mk [], boot_drawn, 596, os⟩ : Shared) = openGood hd.view_39 [] := fun w os => by first | (rewrite [PySem.W.Fast.te4187177175401517315]; kernel_rfl) | kernel_rfl
theorem hd.left : LeftO hd.p hd.view_39 [] (fun s => xlAt hd.view_39 [] s && recOk PySem.Challenge.rw_rr0020_01.row.records s) hd.hook.obs hd.hook.val 3912 :=
  LeftO.of_pieces (boot_open hd.boot1 (by decide) hd.boot2) hd.size hd.run (by decide) fun w => funext fun os => by
    rw [hd.look1 w os, hd.look2 w os, hd.look3 w os]
theorem hd.def_ok : defOf hd.view_39 PySem.Challenge.rw_rr0020_01.row.name = some (hd.law_d, []) := by kernel_rfl
theorem hd.the_ok : PySem.Challenge.rw_rr0020_01.row.prog.theDef PySem.Challenge.rw_rr0020_01.row.name = some (hd.law_d.params, hd.law_d.body, hd.law_d.scope) := by kernel_rfl
theorem hd.kw_ok : kwWritten? hd.law_d.params.kwonlyargs hd.law_d.params.kw_defaults = some [] := by kernel_rfl
theorem hd.ok : (chainsOk hd.view_39 && opensWell PySem.Challenge.rw_rr0020_01.row.prog && (frees PySem.Challenge.rw_rr0020_01.row.toRowW && PySem.Challenge.rw_rr0020_01.row.within.isEmpty)) = true := by kernel_rfl
theorem hd.bare : PySem.Challenge.rw_rr0020_01.row.prog.bare := ⟨by kernel_rfl, by kernel_rfl, by kernel_rfl, by kernel_rfl, by kernel_rfl, by kernel_rfl⟩
theorem hd.some_args : PySem.Challenge.rw_rr0020_01.row.toRowW.promised := by w_witness2
theorem hd.no_write : (!PySem.Challenge.rw_rr0020_01.row.writes || PySem.Challenge.rw_rr0020_01.row.records.isEmpty) = true := by kernel_rfl
theorem hd (walk : WalkO hd.view_39 [] (XL hd.view_39 []) (kHook hd.heap_39 hd.as hd.as_ok).says PySem.Challenge.rw_rr0020_01.row.toRowW hd.law_d [] fun f vs => PySem.call f vs) : PySem.Challenge.rw_rr0020_01.Holds :=
  holds_law hd.said fun said => holds_open (Yf := hd.hook.obs) (Ya := hd.hook.val) (YP := hd.hook.says) hd.left hd.hook.of hd.hook.keeps (fun s e => xl_of s (Bool.and_eq_true_iff.mp e).1) XL.keeps hd.def_ok hd.the_ok hd.kw_ok
    (fun s e => recFacts_of (Bool.and_eq_true_iff.mp e).2) hd.no_write said hd.ok hd.bare hd.some_args walk
end
section
local macro_rules | `(tactic| k_room) => `(tactic| ktr_room)
local macro_rules | `(tactic| k_units) => `(tactic| ktr_units)
section
theorem fresh_B0 : True := by
  w_top off
  trivial
abbrev Led := List (Addr × Obj)
def CallsTo (w : World) (k : Nat) (f : Addr) (args : List Value) (news : Led) (post : Value → Led → Prop) (exc : Prop) : Prop :=
  ∀ (dp un : Nat) (gd : Option (List Code)) (cn : Str) (cS : Scope) (a : Addr) (ccd : Value) (cl : List (Str × Addr)) (outer : List Env) (A₀ : Around) (base h₀ : Heap) (L : Addr) (m : Str → Option Value) (s : Shared)
    (pr : Program) (loose : List Str) (mean : ExcName → Option Value) (mg mb : Str → Option Value) (Q E : Value → Shared → Prop),
    Below A₀ base outer h₀ → Fr h₀ L s.heap m → (hd.heap_39 w.params).In h₀ → News h₀ L s.heap news → Top pr loose mean mg mb h₀ → cS.kind = .function → dp + k < recursionLimit → un + 8 * k < cLine →
    (∀ r h' tk' news', Fr h₀ L h' m → News h₀ L h' news' → post r news' → Q r { s with heap := h', toks := tk' }) →
    (exc → ∀ e g h' tk', Fr h₀ L g m → RaisedSN base g (envX cn cS L a ccd cl :: outer) e (.ref 51) [] h' → g.UpToSlots h' → E (.ref e) { s with heap := h', toks := tk' }) →
    wpAny (model PySem.Challenge.rw_rr0020_01.row.prog w) (ktrTop dp un gd cn cS L a ccd cl outer) (call (.ref f) args) Q E s
section
variable {w : World} {k : Nat} {f : Addr} {args : List Value} {news : Led} {post : Value → Led → Prop} {exc : Prop}
  {dp un : Nat} {gd : Option (List Code)} {cn : Str} {cS : Scope} {a : Addr} {ccd : Value} {cl : List (Str × Addr)} {outer : List Env} {A₀ : Around} {base h₀ : Heap} {L : Addr} {m : Str → Option Value} {s : Shared}
  {pr : Program} {loose : List Str} {mean : ExcName → Option Value} {mg mb : Str → Option Value} {Q E : Value → Shared → Prop}
theorem calls_use (B : Below A₀ base outer h₀) (F : Fr h₀ L s.heap m) (X : (hd.heap_39 w.params).In h₀) (N : News h₀ L s.heap news) (T : Top pr loose mean mg mb h₀) (hk : cS.kind = .function)
    (C : CallsTo w k f args news post False) (hd : dp + k < recursionLimit) (hu : un + 8 * k < cLine)
    (ret : ∀ r h' tk' news', Fr h₀ L h' m → News h₀ L h' news' → post r news' → Q r { s with heap := h', toks := tk' }) :
    wpAny (model PySem.Challenge.rw_rr0020_01.row.prog w) (ktrTop dp un gd cn cS L a ccd cl outer) (call (.ref f) args) Q E s :=
  C _ _ _ _ _ _ _ _ _ _ _ _ _ _ _ _ _ _ _ _ _ _ B F X N T hk hd hu ret (fun h => h.elim)
theorem calls_A {V : Value} {nw : Led} (B : Below A₀ base outer h₀) (F : Fr h₀ L s.heap m) (X : (hd.heap_39 w.params).In h₀) (N : News h₀ L s.heap news) (T : Top pr loose mean mg mb h₀) (hk : cS.kind = .function)
    (C : CallsTo w k f args news (fun r n => r = V ∧ n = nw) False) (hd : dp + k < recursionLimit) (hu : un + 8 * k < cLine)
    (ret : ∀ h' tk', Fr h₀ L h' m → News h₀ L h' nw → Q V { s with heap := h', toks := tk' }) :
    wpAny (model PySem.Challenge.rw_rr0020_01.row.prog w) (ktrTop dp un gd cn cS L a ccd cl outer) (call (.ref f) args) Q E s :=
  calls_use B F X N T hk C hd hu (fun _ _ _ _ F' N' e => by obtain ⟨rfl, rfl⟩ := e; exact ret _ _ F' N')
theorem calls_B {τ : Type} {V : τ → Value} {nw : Led} (B : Below A₀ base outer h₀) (F : Fr h₀ L s.heap m) (X : (hd.heap_39 w.params).In h₀) (N : News h₀ L s.heap news) (T : Top pr loose mean mg mb h₀) (hk : cS.kind = .function)
    (C : CallsTo w k f args news (fun r n => (∃ t, r = V t) ∧ n = nw) False) (hd : dp + k < recursionLimit) (hu : un + 8 * k < cLine)
    (ret : ∀ t h' tk', Fr h₀ L h' m → News h₀ L h' nw → Q (V t) { s with heap := h', toks := tk' }) :
    wpAny (model PySem.Challenge.rw_rr0020_01.row.prog w) (ktrTop dp un gd cn cS L a ccd cl outer) (call (.ref f) args) Q E s :=
  calls_use B F X N T hk C hd hu (fun _ _ _ _ F' N' e => by obtain ⟨⟨t, rfl⟩, rfl⟩ := e; exact ret _ _ _ F' N')
theorem calls_C {τ υ : Type} {V : τ → Value} {nw : υ → Led} (B : Below A₀ base outer h₀) (F : Fr h₀ L s.heap m) (X : (hd.heap_39 w.params).In h₀) (N : News h₀ L s.heap news) (T : Top pr loose mean mg mb h₀) (hk : cS.kind = .function)
    (C : CallsTo w k f args news (fun r n => (∃ t, r = V t) ∧ ∃ u, n = nw u) False) (hd : dp + k < recursionLimit) (hu : un + 8 * k < cLine)
    (ret : ∀ t u h' tk', Fr h₀ L h' m → News h₀ L h' (nw u) → Q (V t) { s with heap := h', toks := tk' }) :
    wpAny (model PySem.Challenge.rw_rr0020_01.row.prog w) (ktrTop dp un gd cn cS L a ccd cl outer) (call (.ref f) args) Q E s :=
  calls_use B F X N T hk C hd hu (fun _ _ _ _ F' N' e => by obtain ⟨⟨t, rfl⟩, u, rfl⟩ := e; exact ret _ _ _ _ F' N')
theorem calls_D {υ : Type} {V : Value} {nw : υ → Led} (B : Below A₀ base outer h₀) (F : Fr h₀ L s.heap m) (X : (hd.heap_39 w.params).In h₀) (N : News h₀ L s.heap news) (T : Top pr loose mean mg mb h₀) (hk : cS.kind = .function)
    (C : CallsTo w k f args news (fun r n => r = V ∧ ∃ u, n = nw u) False) (hd : dp + k < recursionLimit) (hu : un + 8 * k < cLine)
    (ret : ∀ u h' tk', Fr h₀ L h' m → News h₀ L h' (nw u) → Q V { s with heap := h', toks := tk' }) :
    wpAny (model PySem.Challenge.rw_rr0020_01.row.prog w) (ktrTop dp un gd cn cS L a ccd cl outer) (call (.ref f) args) Q E s :=
  calls_use B F X N T hk C hd hu (fun _ _ _ _ F' N' e => by obtain ⟨rfl, u, rfl⟩ := e; exact ret _ _ _ F' N')
theorem calls_useX (B : Below A₀ base outer h₀) (F : Fr h₀ L s.heap m) (X : (hd.heap_39 w.params).In h₀) (N : News h₀ L s.heap news) (T : Top pr loose mean mg mb h₀) (hk : cS.kind = .function)
    (C : CallsTo w k f args news (fun _ _ => False) True) (hd : dp + k < recursionLimit) (hu : un + 8 * k < cLine)
    (exc : ∀ e g h' tk', Fr h₀ L g m → RaisedSN base g (envX cn cS L a ccd cl :: outer) e (.ref 51) [] h' → g.UpToSlots h' → E (.ref e) { s with heap := h', toks := tk' }) :
    wpAny (model PySem.Challenge.rw_rr0020_01.row.prog w) (ktrTop dp un gd cn cS L a ccd cl outer) (call (.ref f) args) Q E s :=
  C _ _ _ _ _ _ _ _ _ _ _ _ _ _ _ _ _ _ _ _ _ _ B F X N T hk hd hu (fun _ _ _ _ _ _ h => h.elim) (fun _ => exc)
end
-- the tokenizer's objects
abbrev lstO (vs : List Value) (ln : Nat) : Obj := { cls := .type "list", data := .seq vs.toArray ln }
abbrev tokD (l : Addr) (h1 h2 h3 : Int) (k1 k2 k3 : Tok) (p : Int) (t t0 : Tok) : Obj :=
  dictOf [⟨h1, .str (Str.ofString "codes") k1, .ref l⟩, ⟨h2, .str (Str.ofString "at") k2, .int p t⟩, ⟨h3, .str (Str.ofString "origin") k3, .int 0 t0⟩] 3
-- what the program's words mean
def codeAt (cs : List Int) (i : Int) : Int := cs.getD i.toNat (-1)
abbrev isLayout (c : Int) : Bool := decide (c = 32 ∨ (9 ≤ c ∧ c ≤ 13))
abbrev isDigit (c : Int) : Bool := decide (48 ≤ c ∧ c ≤ 57)
abbrev isSmall (c : Int) : Bool := decide (97 ≤ c ∧ c ≤ 122)
abbrev isCapital (c : Int) : Bool := decide (65 ≤ c ∧ c ≤ 90)
abbrev isAlnum (c : Int) : Bool := decide ((97 ≤ c ∧ c ≤ 122) ∨ (65 ≤ c ∧ c ≤ 90) ∨ (48 ≤ c ∧ c ≤ 57) ∨ c = 95)
def digitValue (c : Int) : Int := if 48 ≤ c ∧ c ≤ 57 then c - 48 else if 97 ≤ c ∧ c ≤ 122 then c - 87 else if 65 ≤ c ∧ c ≤ 90 then c - 55 else -1
def numeralBase (c : Int) : Int := if c = 98 then 2 else if c = 111 then 8 else if c = 120 then 16 else 0
structure Tk (x d l : Addr) (vs : List Value) (cs : List Int) (rest : Led) : Prop where
  hi : IntsAre vs cs
  hc : ∀ c ∈ cs, 0 ≤ c ∧ c < 128
  hn : cs.length < 1000000
  hx : x ≠ d
  hl : l ≠ d
  hr : ∀ q ∈ rest, q.1 ≠ d
theorem codeAt_out {cs : List Int} {i : Int} (h : (cs.length : Int) ≤ i) : codeAt cs i = -1 := by
  unfold codeAt
  rw [List.getD_eq_getElem?_getD, List.getElem?_eq_none (by omega)]; rfl
theorem codeAt_in {cs : List Int} {i : Int} (h0 : 0 ≤ i) (h : i < (cs.length : Int)) (z : Int) : cs.getD i.toNat z = codeAt cs i := by
  unfold codeAt
  rw [List.getD_eq_getElem?_getD, List.getD_eq_getElem?_getD, List.getElem?_eq_getElem (by omega)]; rfl
theorem codeAt_mem {cs : List Int} {i : Int} (h0 : 0 ≤ i) (h : i < (cs.length : Int)) : codeAt cs i ∈ cs := by
  unfold codeAt
  rw [List.getD_eq_getElem?_getD, List.getElem?_eq_getElem (by omega)]; exact List.getElem_mem _
theorem codeAt_lt {cs : List Int} (hc : ∀ c ∈ cs, 0 ≤ c ∧ c < 128) {i : Int} (h0 : 0 ≤ i) : -1 ≤ codeAt cs i ∧ codeAt cs i < 128 ∧ (codeAt cs i = -1 ↔ (cs.length : Int) ≤ i) := by
  by_cases h : i < (cs.length : Int)
  · have := hc _ (codeAt_mem h0 h); omega
  · have := codeAt_out (cs := cs) (i := i) (by omega); omega
local macro_rules | `(tactic| is_list) => `(tactic| exact News.isList (by assumption) (by assumption))
set_option maxRecDepth 100000 in
set_option maxHeartbeats 8000000 in
theorem c_code_at {w : World} {x d l : Addr} {h1 h2 h3 : Int} {k1 k2 k3 t t0 ti : Tok} {p i : Int} {vs : List Value} {cs : List Int} {ln : Nat} {news : Led}
    (mx : (x, instObj 270 d) ∈ news) (md : (d, tokD l h1 h2 h3 k1 k2 k3 p t t0) ∈ news) (ml : (l, lstO vs ln) ∈ news)
    (hi : IntsAre vs cs) (hcs : ∀ c ∈ cs, 0 ≤ c ∧ c < 128) (hlen : cs.length < 1000000) (h0 : 0 ≤ i) :
    CallsTo w 1 155 [.ref x, .int i ti] news (fun r n => (∃ t, r = .int (codeAt cs i) t) ∧ n = news) False := by
  unfold CallsTo; k_fill
  intro dp un gd cn cS a ccd cl outer A₀ base h₀ L m s pr loose mean mg mb Q E B F X N T hk hd hu ret _
  refine wpAny_call ?_
  k_dflt ktr_enter
  k_steps
  · exact ret _ _ _ _ (by assumption) (by assumption) ⟨⟨_, by rw [codeAt_out (by assumption)]⟩, rfl⟩
  · exfalso
    rename_i ha _ _ _ hb _ _ _ _
    rw [codeAt_in h0 (by omega)] at hb
    have := hcs _ (codeAt_mem h0 (by omega)); omega
  · exfalso
    rename_i ha _ _ _ _ hb _ _ _ _
    rw [codeAt_in h0 (by omega)] at hb
    have := hcs _ (codeAt_mem h0 (by omega)); omega
  · exact ret _ _ _ _ (by assumption) (by assumption) ⟨⟨_, by rw [codeAt_in h0 (by omega)]⟩, rfl⟩
theorem boolT {P : Prop} [Decidable P] (h : P) : Value.bool true = Value.bool (decide P) := by rw [decide_eq_true h]
theorem boolF {P : Prop} [Decidable P] (h : ¬ P) : Value.bool false = Value.bool (decide P) := by rw [decide_eq_false h]
theorem boolE {P R : Prop} [Decidable P] [Decidable R] (h : R ↔ P) : Value.bool (decide R) = Value.bool (decide P) := by rw [decide_eq_decide.mpr h]
theorem intE {a b : Int} {t : Tok} (h : a = b) : ∃ t', Value.int a t = Value.int b t' := ⟨t, h ▸ rfl⟩
set_option maxRecDepth 100000 in
set_option maxHeartbeats 8000000 in
theorem c_is_layout {w : World} {c : Int} {tc : Tok} {news : Led} : CallsTo w 1 60 [.int c tc] news (fun r n => r = .bool (isLayout c) ∧ n = news) False := by
  unfold CallsTo; k_fill
  intro dp un gd cn cS a ccd cl outer A₀ base h₀ L m s pr loose mean mg mb Q E B F X N T hk hd hu ret _
  refine wpAny_call ?_
  k_dflt ktr_enter
  k_steps
  all_goals (refine ret _ _ _ _ (by assumption) (by assumption) ⟨?_, rfl⟩; unfold isLayout; first | exact boolT (by omega) | exact boolF (by omega) | exact boolE (by omega))
set_option maxRecDepth 100000 in
set_option maxHeartbeats 8000000 in
theorem c_is_digit {w : World} {c : Int} {tc : Tok} {news : Led} : CallsTo w 1 67 [.int c tc] news (fun r n => r = .bool (isDigit c) ∧ n = news) False := by
  unfold CallsTo; k_fill
  intro dp un gd cn cS a ccd cl outer A₀ base h₀ L m s pr loose mean mg mb Q E B F X N T hk hd hu ret _
  refine wpAny_call ?_
  k_dflt ktr_enter
  k_steps
  all_goals (refine ret _ _ _ _ (by assumption) (by assumption) ⟨?_, rfl⟩; unfold isDigit; first | exact boolT (by omega) | exact boolF (by omega) | exact boolE (by omega))
set_option maxRecDepth 100000 in
set_option maxHeartbeats 8000000 in
theorem c_is_small {w : World} {c : Int} {tc : Tok} {news : Led} : CallsTo w 1 74 [.int c tc] news (fun r n => r = .bool (isSmall c) ∧ n = news) False := by
  unfold CallsTo; k_fill
  intro dp un gd cn cS a ccd cl outer A₀ base h₀ L m s pr loose mean mg mb Q E B F X N T hk hd hu ret _
  refine wpAny_call ?_
  k_dflt ktr_enter
  k_steps
  all_goals (refine ret _ _ _ _ (by assumption) (by assumption) ⟨?_, rfl⟩; unfold isSmall; first | exact boolT (by omega) | exact boolF (by omega) | exact boolE (by omega))
set_option maxRecDepth 100000 in
set_option maxHeartbeats 8000000 in
theorem c_is_capital {w : World} {c : Int} {tc : Tok} {news : Led} : CallsTo w 1 81 [.int c tc] news (fun r n => r = .bool (isCapital c) ∧ n = news) False := by
  unfold CallsTo; k_fill
  intro dp un gd cn cS a ccd cl outer A₀ base h₀ L m s pr loose mean mg mb Q E B F X N T hk hd hu ret _
  refine wpAny_call ?_
  k_dflt ktr_enter
  k_steps
  all_goals (refine ret _ _ _ _ (by assumption) (by assumption) ⟨?_, rfl⟩; unfold isCapital; first | exact boolT (by omega) | exact boolF (by omega) | exact boolE (by omega))
local macro_rules | `(tactic| walk_at "eval Call") => `(tactic| (k_here; k_dflt (refine Call_ ?_)))
local macro_rules | `(tactic| walk_at "call ref") => `(tactic| (k_here; (with_reducible show wpAny _ _ (call (Value.ref _) [Value.int _ _]) _ _ _); k_dflt ((first | refine' calls_A ?k1 ?k2 ?k3 ?k4 ?k5 ?k6 c_is_small ?k7 ?k8 ?_ | refine' calls_A ?k1 ?k2 ?k3 ?k4 ?k5 ?k6 c_is_capital ?k7 ?k8 ?_ | refine' calls_A ?k1 ?k2 ?k3 ?k4 ?k5 ?k6 c_is_digit ?k7 ?k8 ?_ | refine' calls_A ?k1 ?k2 ?k3 ?k4 ?k5 ?k6 c_is_layout ?k7 ?k8 ?_); (case k1 => k_asm); (case k2 => k_asm); (case k3 => k_asm); (case k4 => k_asm); (case k5 => k_asm); (case k6 => first | exact rfl | assumption); (case k7 => ktr_room); (case k8 => ktr_units); k_whole; intro h9 tk9 F9 N9; (try dsimp only); (try k_sweep))))
set_option maxRecDepth 100000 in
set_option maxHeartbeats 8000000 in
theorem c_is_alnum {w : World} {c : Int} {tc : Tok} {news : Led} : CallsTo w 2 88 [.int c tc] news (fun r n => r = .bool (isAlnum c) ∧ n = news) False := by
  unfold CallsTo; k_fill
  intro dp un gd cn cS a ccd cl outer A₀ base h₀ L m s pr loose mean mg mb Q E B F X N T hk hd hu ret _
  refine wpAny_call ?_
  k_dflt ktr_enter
  k_steps
  all_goals (refine ret _ _ _ _ (by assumption) (by assumption) ⟨?_, rfl⟩; unfold isAlnum; first | exact boolT (by omega) | exact boolF (by omega) | exact boolE (by omega))
set_option maxRecDepth 100000 in
set_option maxHeartbeats 8000000 in
theorem c_digit_value {w : World} {c : Int} {tc : Tok} {news : Led} : CallsTo w 2 109 [.int c tc] news (fun r n => (∃ t, r = .int (digitValue c) t) ∧ n = news) False := by
  unfold CallsTo; k_fill
  intro dp un gd cn cS a ccd cl outer A₀ base h₀ L m s pr loose mean mg mb Q E B F X N T hk hd hu ret _
  refine wpAny_call ?_
  k_dflt ktr_enter
  k_steps
  all_goals (refine ret _ _ _ _ (by assumption) (by assumption) ⟨intE ?_, rfl⟩; unfold digitValue; (repeat' split) <;> omega)
set_option maxRecDepth 100000 in
set_option maxHeartbeats 8000000 in
theorem c_numeral_base {w : World} {c : Int} {tc : Tok} {news : Led} : CallsTo w 2 133 [.int c tc] news (fun r n => (∃ t, r = .int (numeralBase c) t) ∧ n = news) False := by
  unfold CallsTo; k_fill
  intro dp un gd cn cS a ccd cl outer A₀ base h₀ L m s pr loose mean mg mb Q E B F X N T hk hd hu ret _
  refine wpAny_call ?_
  k_dflt ktr_enter
  k_steps
  all_goals (refine ret _ _ _ _ (by assumption) (by assumption) ⟨intE ?_, rfl⟩; unfold numeralBase; (repeat' split) <;> omega)
end
local macro_rules | `(tactic| k_all) => `(tactic| assumption)
local macro_rules | `(tactic| walk_at "my_same") => `(tactic| (intro z h2 h3; (try simp only [List.forall_mem_cons, List.not_mem_nil, false_implies, implies_true, and_true, ne_eq] at h2); (simp only [List.contains_cons, List.contains_nil, Bool.or_false, Bool.or_eq_false_iff, beq_eq_false_iff_ne, ne_eq] at h3); (simp [kstB, h2, h3]; done)))
local macro_rules | `(tactic| walk_at "my_steps") => `(tactic| repeat' (first | (k_unfold; (try dsimp only)) | (k_end; wrow_close) | ((fail_if_success (with_reducible show wpAny _ _ (exec (Stmt.While _ _ _ _) _) _ _ _)); walk1) | ((fail_if_success (with_reducible show wpAny _ _ (exec (Stmt.While _ _ _ _) _) _ _ _)); dsimp only; walk1) | ((fail_if_success (with_reducible show wpAny _ _ (exec (Stmt.While _ _ _ _) _) _ _ _)); leave1; walk_say "STEP leave1"; try dsimp only) | fail "no step"))
local macro_rules | `(tactic| walk_at "ite") => `(tactic| (k_here; k_openite; first | (refine ite_pos (by (try simp only [beq_iff_eq, bne_iff_ne, beq_eq_false_iff_ne, decide_eq_true_eq, decide_eq_false_iff_not, Bool.not_eq_true', Bool.and_eq_true, Bool.or_eq_true]); omega) ?_; walk_say "PRUNED +") | (refine ite_neg (by (try simp only [beq_iff_eq, bne_iff_ne, beq_eq_false_iff_ne, decide_eq_true_eq, decide_eq_false_iff_not, Bool.not_eq_true', Bool.and_eq_true, Bool.or_eq_true]); omega) ?_; walk_say "PRUNED -")))
section
theorem fresh_B4 : True := by
  w_top off
  trivial
local macro_rules | `(tactic| walk_at "my_stepsLC") => `(tactic| repeat' (first | (k_unfold; (try dsimp only)) | (k_end; wrow_close) | ((fail_if_success (with_reducible show wpAny _ _ (eval (Expr.ListComp _ _ _ _) _) _ _ _)); walk1) | fail "no step"))
def txt (cs : List Int) : Str := ⟨(cs.map Int.toNat).toArray⟩
theorem join_txt (cs : List Int) : Txt.join (Str.ofString "") (cs.map fun a => (⟨#[a.toNat]⟩ : Str)) = txt cs := by
  have e1 : Str.ofString "" = (⟨#[]⟩ : Str) := by decide +kernel
  have e2 : (cs.map fun a => (⟨#[a.toNat]⟩ : Str)) = (cs.map Int.toNat).map fun k => (⟨#[k]⟩ : Str) := by rw [List.map_map]; rfl
  rw [show Txt.join (Str.ofString "") (cs.map fun a => (⟨#[a.toNat]⟩ : Str)) = Builtin.Str.glued (Str.ofString "") (cs.map fun a => (⟨#[a.toNat]⟩ : Str)) from rfl, StrLaws.glued_eq_join, e1, e2]
  exact PyProof.Rows.join_ones _
section
variable {w : World} {l : Addr} {vs : List Value} {ln : Nat} {cs : List Int} {news : Led}
set_option maxRecDepth 100000 in
set_option maxHeartbeats 8000000 in
theorem c_codes_text (ml : (l, lstO vs ln) ∈ news) (hi : IntsAre vs cs) (hcs : ∀ c ∈ cs, 0 ≤ c ∧ c < 128) (hlen : cs.length < 1000000) :
    CallsTo w 2 119 [.ref l] news (fun r n => (∃ t, r = .str (txt cs) t) ∧ n = news) False := by
  unfold CallsTo; k_fill
  intro dp un gd cn cS a ccd cl outer A₀ base h₀ L m s pr loose mean mg mb Q E B F X N T hk hd hu ret _
  refine wpAny_call ?_
  k_dflt ktr_enter
  walk_at "my_stepsLC"
  k_dflt (refine LCg.ListComp_U (F₀ := by k_asm) (by with_unfolding_all rfl) (by decide) (by rfl) (by decide) (by rfl) ?_)
  walk1
  have hsz : vs.toArray.size ≤ sizeLine := by rw [List.size_toArray, hi.length, sizeLine_eq]; omega
  k_dflt (refine LCg.CompSrc.ledger (by rfl) (by k_asm) (by k_asm) ml hsz ?_)
  intro g'
  refine kct_list (fun k => (⟨#[k.toNat]⟩ : Str)) hi ?_ ?_
  · intro k' t' I' oI' C' oC' D' m' ys' h' tk' E' hk' hC' hx' F' N' off' ne' _
    have hk2 := hcs k' hk'
    k_steps
    rename Fr _ _ _ _ => F2
    rename News _ _ _ _ => N2
    exact LCg.CompEnd.intro F2 N2 news (fun _ h => h) off' (.inr ⟨_, ml, rfl, _, rfl⟩) ⟨rfl, _, rfl⟩
  · show ∀ ys, _
    intro ys hc hl D h9 tk9 F9 N9 o9
    k_steps
    rename Fr _ _ _ _ => F2
    rename News _ _ _ _ => N2
    exact ret _ _ _ _ F2 (cb_drop N2 fun p hp => .tail _ hp) ⟨⟨_, by rw [join_txt]⟩, rfl⟩
end
section
variable {prog : Program} {w : World} {A : Around} {E : Value → Shared → Prop} {s : Shared} {h₀ : Heap} {L : Addr} {m : Str → Option Value} {env : Env}
theorem comp_text {elt iter : PySem.Expr} {x : Str} {px : Pos} {scope : Scope} {cl : List (Str × Addr)} {pos : Pos} {Q : Value → Shared → Prop} (F₀ : Fr h₀ L s.heap m)
    (hclos : closureFor scope env = pure cl) (hcell : ∀ y ∈ scope.names, y.2 ≠ .cell) (hkind : scope.kind = .function)
    (hnames : ∀ y ∈ scope.names, y.2 = .local → scope.names.lookup y.1 = some .local) (hx : scope.names.lookup x = some .local)
    (h : wpAny (model prog w) A (eval iter env) (fun xv s₁ => ∃ y t news, xv = .str y t ∧ y.cps.all (· < 128) = true ∧ y.cps.size ≤ sizeLine ∧ A.handled = none ∧ Fr h₀ L s₁.heap m ∧ News h₀ L s₁.heap news ∧
      ∀ g, LCg.CompRest prog w A h₀ L m env elt x scope cl { s₁ with heap := g } (fun _ => True) (SignAt y) (LCg.FinE h₀ L m { s₁ with heap := g } Q) y.cps.size 0 [] news) E s)
    (hs : ∀ x, foldedSetIterable iter env x = pure x := by intro _; rfl) :
    wpAny (model prog w) A (eval (.ListComp elt [⟨.Name x px, iter, [], 0⟩] scope pos) env) Q E s := by
  rw [eval_ListComp]
  refine wpAny_comprehension_free (use := none) rfl hs hclos hkind hnames (wpAny_mono h (fun xv s₁ h₁ => ?_) fun _ _ e => e)
  obtain ⟨y, t, news, rfl, ha, hsz, hh, F, N, R⟩ := h₁
  refine wpAny_pyIter_ascii ha ?_
  refine LCg.block_U (S := fun _ => True) (P := SignAt y) (Walks.strAscii hh s₁.heap.objs.size y t) hsz (fun i h st => by obtain ⟨o, e, _⟩ := st; exact ⟨o, e⟩)
    (fun i h h' o nw st e e' _ _ _ => by obtain ⟨o', q, r⟩ := st; rw [e] at q; cases q; exact ⟨o, e', r⟩) hcell hkind hx ⟨_, Heap.get?_push_size _ rfl, rfl, rfl⟩ (fun b hb => ?_)
    (F.keeps fun _ _ e => Heap.get?_push_of_some _ e) (N.grown fun _ _ e => Heap.get?_push_of_some _ e) (Nat.ne_of_lt F.ns.lt) (next_is_new F) (fun p hp => Nat.ne_of_lt (Heap.lt_size (N p hp).1)) trivial (R _) ?_
  · rw [List.mem_singleton.mp hb]
    show s₁.heap.objs.size < (s₁.heap.push _).objs.size
    rw [Heap.size_push]; exact Nat.lt_succ_self _
  · intro D C h tk m' ys news' F' N' o1 hn hC₀ hD₀ hCL hDL hCD offC fin
    refine ⟨m', hn, fun h'' hs'' => fin D h'' tk (F'.change hs'' hCL hC₀) (fun p hp => ?_) o1⟩
    refine ⟨hs''.extBut _ _ ?_ (N' p hp).1, (N' p hp).2⟩
    rcases List.mem_cons.mp hp with rfl | hp
    · exact Ne.symm hCD
    · exact offC p hp
theorem off1_mem {D : Addr} {l : Led} (h : LCg.Off1 D l) : ∀ q ∈ l, q.1 ≠ D := by
  induction l with
  | nil => intro q hq; cases hq
  | cons p r ih =>
    intro q hq
    rcases List.mem_cons.mp hq with e | e
    · rw [e]; exact h.1
    · exact ih h.2 q e
theorem rest_ord {elt : PySem.Expr} {x y : Str} {scope : Scope} {cl : List (Str × Addr)} {S : Led → Prop} {Fin : List Value → Led → Prop} {news : Led}
    (turn : ∀ c u I oI C oC D m₂ ys h tk (E' : Value → Shared → Prop), c ∈ y.cps.toList → LCg.NsObj oC m₂ → m₂ x = some (.str ⟨#[c]⟩ u) → Fr h₀ L h m → News h₀ L h ((I, oI) :: (C, oC) :: (D, LCg.lst ys) :: news) → LCg.Off3 I C D news → ((@Ne Nat I C) ∧ (@Ne Nat I D) ∧ (@Ne Nat C D)) → KPfMark →
      wpAny (model prog w) A (eval elt (compEnvC scope cl C env)) (LCg.CompEnd h₀ L m { s with heap := h, toks := tk } I oI C oC D (LCg.lst ys) S (fun r news' => news' = news ∧ ∃ t, r = .int (c : Int) t)) E' { s with heap := h, toks := tk })
    (fin : ∀ ys, IntsAre ys (y.cps.toList.map Int.ofNat) → Fin ys news) : LCg.CompRest prog w A h₀ L m env elt x scope cl s S (SignAt y) Fin y.cps.size 0 [] news := by
  have key : ∀ (j i : Nat) (ys : List Value), i + j = y.cps.size → IntsAre ys ((y.cps.toList.take i).map Int.ofNat) → LCg.CompRest prog w A h₀ L m env elt x scope cl s S (SignAt y) Fin j i ys news := by
    intro j
    induction j with
    | zero =>
      intro i ys hi hy
      rw [List.take_of_length_le (by rw [Array.length_toList]; omega)] at hy
      exact LCg.CompRest.zero (fin ys hy)
    | succ j ih =>
      intro i ys hi hy
      refine LCg.CompRest.succ ?_
      intro v I oI C oC D m₂ h tk E' hv hC hx F N off ne
      obtain ⟨c, u, hc, rfl⟩ := hv
      have hc' : y.cps.toList[i]? = some c := by rw [Array.getElem?_toList]; exact hc
      refine wpAny_mono (turn c u I oI C oC D m₂ ys h tk E' (List.mem_of_getElem? hc') hC hx F N off ne True.intro) (fun r s₂ hq => ?_) fun _ _ e => e
      obtain ⟨h', tk', nw, e, F', N', off', hS, hn, t', hr⟩ := hq
      rw [hn] at N' off' hS
      refine ⟨h', tk', news, e, F', N', off', hS, ?_⟩
      rw [hr]
      refine ih (i + 1) _ (by omega) ?_
      rw [List.take_add_one, hc', List.map_append]
      exact IntsAre.append hy (.cons _ _ .nil)
  exact key y.cps.size 0 [] (by omega) .nil
end
section
variable {w : World} {x : Str} {tx : Tok} {news : Led}
set_option maxRecDepth 100000 in
set_option maxHeartbeats 8000000 in
theorem c_text_codes (hx : x.cps.all (· < 128) = true) (hlen : x.cps.size < 1000000) :
    CallsTo w 2 114 [.str x tx] news (fun r n => ∃ l vs, r = .ref l ∧ n = (l, lstO vs vs.length) :: news ∧ IntsAre vs (x.cps.toList.map Int.ofNat) ∧ ∀ q ∈ news, q.1 ≠ l) False := by
  unfold CallsTo; k_fill
  intro dp un gd cn cS a ccd cl outer A₀ base h₀ L m s pr loose mean mg mb Q E B F X N T hk hd hu ret _
  refine wpAny_call ?_
  k_dflt ktr_enter
  walk_at "my_stepsLC"
  k_dflt (refine comp_text (F₀ := by k_asm) (by with_unfolding_all rfl) (by decide) (by rfl) (by decide) (by rfl) ?_)
  walk1
  have hsz : x.cps.size ≤ sizeLine := by rw [sizeLine_eq]; omega
  k_dflt (refine ⟨x, tx, news, rfl, hx, hsz, by rfl, by k_asm, by k_asm, ?_⟩)
  intro g'
  refine rest_ord ?_ ?_
  · intro c u I' oI' C' oC' D' m' ys' h' tk' E' hk' hC' hx' F' N' off' ne' _
    k_steps
    rename Fr _ _ _ _ => F2
    rename News _ _ _ _ => N2
    exact LCg.CompEnd.intro F2 N2 news (fun _ h => h) off' trivial ⟨rfl, _, rfl⟩
  · intro ys hc D h9 tk9 F9 N9 o9
    k_steps
    rename Fr _ _ _ _ => F2
    rename News _ _ _ _ => N2
    exact ret _ _ _ _ F2 N2 ⟨D, ys, rfl, rfl, hc, off1_mem o9⟩
end
def isSymbol (c : Int) : Bool := decide (0 ≤ c) && [43, 45, 42, 47, 92, 94, 60, 62, 61, 126, 58, 46, 63, 64, 35, 38, 36].contains c.toNat
theorem sym_in : ∀ n : Nat, n < 128 → (!(Builtin.Str.occurrences (Str.ofString "+-*/\\^<>=~:.?@#&$") (⟨#[n]⟩ : Str) 0 (Str.length (Str.ofString "+-*/\\^<>=~:.?@#&$")) 1).isEmpty) = [43, 45, 42, 47, 92, 94, 60, 62, 61, 126, 58, 46, 63, 64, 35, 38, 36].contains n := by decide +kernel
theorem sym_lo {c : Int} (h : ¬ 0 ≤ c) : isSymbol c = false := by simp [isSymbol, h]
theorem sym_hi {c : Int} (h : ¬ c < 128) : isSymbol c = false := by
  unfold isSymbol
  rw [Bool.and_eq_false_iff]
  right
  rw [← Bool.not_eq_true]
  intro hc
  have := List.contains_iff_mem.mp hc
  simp only [List.mem_cons, List.not_mem_nil, or_false] at this
  omega
theorem sym_mid {c : Int} (h0 : 0 ≤ c) (h : c < 128) : (!(Builtin.Str.occurrences (Str.ofString "+-*/\\^<>=~:.?@#&$") (⟨#[c.toNat]⟩ : Str) 0 (Str.length (Str.ofString "+-*/\\^<>=~:.?@#&$")) 1).isEmpty) = isSymbol c := by
  rw [sym_in c.toNat (by omega)]; simp [isSymbol, h0]
section
variable {w : World} {c : Int} {tc : Tok} {news : Led}
set_option maxRecDepth 100000 in
set_option maxHeartbeats 8000000 in
theorem c_is_symbol :
    CallsTo w 2 95 [.int c tc] news (fun r n => r = .bool (isSymbol c) ∧ n = news) False := by
  unfold CallsTo; k_fill
  intro dp un gd cn cS a ccd cl outer A₀ base h₀ L m s pr loose mean mg mb Q E B F X N T hk hd hu ret _
  refine wpAny_call ?_
  k_dflt ktr_enter
  k_steps
  · exact ret _ _ _ _ (by assumption) (by assumption) ⟨by rw [sym_mid (by assumption) (by assumption)], rfl⟩
  all_goals (refine ret _ _ _ _ (by assumption) (by assumption) ⟨congrArg Value.bool ?_, rfl⟩)
  · rw [sym_hi (by assumption)]; exact decide_eq_false (by assumption)
  · rw [sym_lo (by assumption)]; exact decide_eq_false (by assumption)
end
end
local macro_rules | `(tactic| walk_at "eval Call") => `(tactic| (k_here; k_dflt (refine Call_ ?_)))
local macro_rules | `(tactic| walk_at "eval Call Attribute") => `(tactic| (k_here; k_dflt (refine MethodCall_ ?_)))
local macro_rules | `(tactic| walk_at "call ref") => `(tactic| (k_here; (with_reducible show wpAny _ _ (call (Value.ref _) [Value.int _ _]) _ _ _); k_dflt ((first | refine' calls_A ?k1 ?k2 ?k3 ?k4 ?k5 ?k6 c_is_small ?k7 ?k8 ?_ | refine' calls_A ?k1 ?k2 ?k3 ?k4 ?k5 ?k6 c_is_capital ?k7 ?k8 ?_ | refine' calls_A ?k1 ?k2 ?k3 ?k4 ?k5 ?k6 c_is_digit ?k7 ?k8 ?_ | refine' calls_A ?k1 ?k2 ?k3 ?k4 ?k5 ?k6 c_is_layout ?k7 ?k8 ?_ | refine' calls_A ?k1 ?k2 ?k3 ?k4 ?k5 ?k6 c_is_alnum ?k7 ?k8 ?_); (case k1 => k_asm); (case k2 => k_asm); (case k3 => k_asm); (case k4 => k_asm); (case k5 => k_asm); (case k6 => first | exact rfl | assumption); (case k7 => ktr_room); (case k8 => ktr_units); k_whole; intro h9 tk9 F9 N9; (try dsimp only); (try k_sweep))))
local macro_rules | `(tactic| walk_at "call ref") => `(tactic| (k_here; (with_reducible show wpAny _ _ (call (Value.ref _) [Value.int _ _]) _ _ _); k_dflt ((first | refine' calls_B ?k1 ?k2 ?k3 ?k4 ?k5 ?k6 c_digit_value ?k7 ?k8 ?_ | refine' calls_B ?k1 ?k2 ?k3 ?k4 ?k5 ?k6 c_numeral_base ?k7 ?k8 ?_); (case k1 => k_asm); (case k2 => k_asm); (case k3 => k_asm); (case k4 => k_asm); (case k5 => k_asm); (case k6 => first | exact rfl | assumption); (case k7 => ktr_room); (case k8 => ktr_units); k_whole; intro t9 h9 tk9 F9 N9; (try dsimp only); (try k_sweep))))
local macro_rules | `(tactic| walk_at "call ref") => `(tactic| (k_here; (with_reducible show wpAny _ _ (call (Value.ref _) [Value.ref _, Value.int _ _]) _ _ _); k_dflt (
  refine' calls_B ?k1 ?k2 ?k3 ?k4 ?k5 ?k6 (c_code_at ?m1 ?m2 ?m3 ?hi ?hc ?hn ?h0) ?k7 ?k8 ?_;
  (case k1 => k_asm); (case k2 => k_asm); (case k3 => k_asm); (case k4 => k_asm); (case k5 => k_asm); (case k6 => first | exact rfl | assumption);
  (case m1 => k_mem); (case m2 => k_mem); (case m3 => k_mem); (case hi => assumption); (case hc => assumption); (case hn => assumption); (case h0 => omega);
  (case k7 => ktr_room); (case k8 => ktr_units); k_whole; intro t9 h9 tk9 F9 N9; (try dsimp only); (try k_sweep))))
section
theorem fresh_B1 : True := by
  w_top off
  trivial
abbrev led (x d l : Addr) (h1 h2 h3 : Int) (k1 k2 k3 t0 : Tok) (vs : List Value) (ln : Nat) (rest : Led) (p : Int) (t : Tok) : Led :=
  (x, instObj 270 d) :: (d, tokD l h1 h2 h3 k1 k2 k3 p t t0) :: (l, lstO vs ln) :: rest
structure Row (cs : List Int) (p p' : Int) : Prop where
  le : p ≤ p'
  mid : ∀ j, p ≤ j → j < p' → codeAt cs j ≠ 10 ∧ codeAt cs j ≠ -1
  fin : codeAt cs p' = 10 ∨ codeAt cs p' = -1
structure Rem (cs : List Int) (p j : Int) : Prop where
  le : p + 2 ≤ j
  mid : ∀ k, p + 2 ≤ k → k < j → codeAt cs k ≠ -1 ∧ (codeAt cs k ≠ 42 ∨ codeAt cs (k + 1) ≠ 47)
  fin : codeAt cs j = 42 ∧ codeAt cs (j + 1) = 47
inductive Lay (cs : List Int) : Nat → Int → Int → Prop
  | stop {p : Int} (h1 : ¬ (codeAt cs p = 32 ∨ (9 ≤ codeAt cs p ∧ codeAt cs p ≤ 13))) (h2 : codeAt cs p ≠ 37) (h3 : codeAt cs p ≠ 47 ∨ codeAt cs (p + 1) ≠ 42) : Lay cs 0 p p
  | lay {n : Nat} {p p' : Int} (h1 : codeAt cs p = 32 ∨ (9 ≤ codeAt cs p ∧ codeAt cs p ≤ 13)) (r : Lay cs n (p + 1) p') : Lay cs (n + 1) p p'
  | row {n : Nat} {p q p' : Int} (h1 : codeAt cs p = 37) (h2 : Row cs p q) (r : Lay cs n q p') : Lay cs (n + 1) p p'
  | rem {n : Nat} {p q p' : Int} (h1 : codeAt cs p = 47) (h2 : codeAt cs (p + 1) = 42) (h3 : Rem cs p q) (r : Lay cs n (q + 2) p') : Lay cs (n + 1) p p'
section
variable {w : World} {x d l : Addr} {h1 h2 h3 : Int} {k1 k2 k3 t0 t : Tok} {vs : List Value} {ln : Nat} {rest : Led} {cs : List Int} {p p' : Int}
set_option maxRecDepth 100000 in
set_option maxHeartbeats 8000000 in
theorem c_skip_row (K : Tk x d l vs cs rest) (h0 : 0 ≤ p) (R : Row cs p p') :
    CallsTo w 2 197 [.ref x] (led x d l h1 h2 h3 k1 k2 k3 t0 vs ln rest p t) (fun r n => r = .none ∧ ∃ t', n = led x d l h1 h2 h3 k1 k2 k3 t0 vs ln rest p' t') False := by
  unfold CallsTo; k_fill
  intro dp un gd cn cS a ccd cl outer A₀ base h₀ L m s pr loose mean mg mb Q E B F X N T hk hd hu ret _
  obtain ⟨hi, hcs, hlen, hx, hl, hr⟩ := K
  obtain ⟨hp, hmid, hend⟩ := R
  refine wpAny_call ?_
  k_dflt ktr_enter
  walk_at "my_steps"
  rename Fr _ _ _ _ => F1
  rename News _ _ _ _ => N1
  refine ksw_while (σ := Int × Tok) (fun c => led x d l h1 h2 h3 k1 k2 k3 t0 vs ln rest c.1 c.2) (fun _ => []) (fun _ => True) [Str.ofString "code"] (fun c => p ≤ c.1 ∧ c.1 ≤ p') (fun c => (p' - c.1).toNat) (p, t) F1 N1 trivial (fun _ h => nomatch h) ⟨Int.le_refl _, hp⟩ ?_
  rintro ⟨q, tq⟩ u h9 tk9 - ⟨hq1, hq2⟩ F9 N9
  dsimp only at hq1 hq2 N9
  have hq0 : 0 ≤ q := by omega
  clear F1 N1
  walk_at "my_steps"
  · obtain rfl : q = p' := by
      rcases Int.lt_or_le q p' with h | h
      · have := hmid q hq1 h; omega
      · omega
    exact ret _ _ _ _ (by assumption) (by assumption) ⟨rfl, _, rfl⟩
  · obtain rfl : q = p' := by
      rcases Int.lt_or_le q p' with h | h
      · have := hmid q hq1 h; omega
      · omega
    exact ret _ _ _ _ (by assumption) (by assumption) ⟨rfl, _, rfl⟩
  · have hq : q < p' := by
      rcases Int.lt_or_le q p' with h | h
      · exact h
      · have : q = p' := by omega
        subst this; omega
    rename News _ _ _ _ => N2
    rename Fr _ _ _ _ => F2
    refine ksw_end (q + 1, _) F2 N2 (fun _ h => h) trivial (fun _ h => nomatch h) (by walk_at "my_same") ⟨by dsimp only; omega, by dsimp only; omega⟩ (by dsimp only; omega)
end
end
section
theorem fresh_B2 : True := by
  w_top off
  trivial
section
variable {w : World} {x d l : Addr} {h1 h2 h3 : Int} {k1 k2 k3 t0 t : Tok} {vs : List Value} {ln : Nat} {rest : Led} {cs : List Int} {p p' : Int}
set_option maxRecDepth 100000 in
set_option maxHeartbeats 8000000 in
theorem c_skip_remark (K : Tk x d l vs cs rest) (h0 : 0 ≤ p) (R : Rem cs p p') :
    CallsTo w 2 204 [.ref x] (led x d l h1 h2 h3 k1 k2 k3 t0 vs ln rest p t) (fun r n => r = .none ∧ ∃ t', n = led x d l h1 h2 h3 k1 k2 k3 t0 vs ln rest (p' + 2) t') False := by
  unfold CallsTo; k_fill
  intro dp un gd cn cS a ccd cl outer A₀ base h₀ L m s pr loose mean mg mb Q E B F X N T hk hd hu ret _
  obtain ⟨hi, hcs, hlen, hx, hl, hr⟩ := K
  obtain ⟨hp, hmid, hend⟩ := R
  refine wpAny_call ?_
  k_dflt ktr_enter
  walk_at "my_steps"
  rename Fr _ _ _ _ => F1
  rename News _ _ _ _ => N1
  refine ksw_while (σ := Int × Tok) (fun c => led x d l h1 h2 h3 k1 k2 k3 t0 vs ln rest c.1 c.2) (fun _ => []) (fun _ => True) [Str.ofString "code"] (fun c => p + 2 ≤ c.1 ∧ c.1 ≤ p') (fun c => (p' - c.1).toNat) (p + 2, _) F1 N1 trivial (fun _ h => nomatch h) ⟨Int.le_refl _, hp⟩ ?_
  rintro ⟨q, tq⟩ u h9 tk9 - ⟨hq1, hq2⟩ F9 N9
  dsimp only at hq1 hq2 N9
  have hq0 : 0 ≤ q := by omega
  clear F1 N1
  rcases Int.lt_or_le q p' with hq | hq
  · have hf := hmid q hq1 hq
    walk_at "my_steps"
    all_goals (first
      | (exfalso; omega)
      | (rename News _ _ _ _ => N2
         rename Fr _ _ _ _ => F2
         refine ksw_end (q + 1, _) F2 N2 (fun _ h => h) trivial (fun _ h => nomatch h) (by walk_at "my_same") ⟨by dsimp only; omega, by dsimp only; omega⟩ (by dsimp only; omega)))
  · obtain rfl : q = p' := by omega
    walk_at "my_steps"
    all_goals (first
      | (exfalso; omega)
      | (exact ret _ _ _ _ (by assumption) (by assumption) ⟨rfl, _, rfl⟩))
end
end
section
theorem fresh_B3 : True := by
  w_top off
  trivial
local macro_rules | `(tactic| walk_at "call ref") => `(tactic| (k_here; (with_reducible show wpAny _ _ (call (Value.ref _) _) _ _ _); k_dflt (
  (first | refine' calls_D ?k1 ?k2 ?k3 ?k4 ?k5 ?k6 (c_skip_row ?K ?h0 ?R) ?k7 ?k8 ?_ | refine' calls_D ?k1 ?k2 ?k3 ?k4 ?k5 ?k6 (c_skip_remark ?K ?h0 ?R) ?k7 ?k8 ?_);
  (case k1 => k_asm); (case k2 => k_asm); (case k3 => k_asm); (case k4 => k_asm); (case k5 => k_asm); (case k6 => first | exact rfl | assumption);
  (case K => assumption); (case h0 => omega); (case R => assumption);
  (case k7 => ktr_room); (case k8 => ktr_units); k_whole; intro t9 h9 tk9 F9 N9; (try dsimp only); (try k_sweep))))
section
variable {w : World} {x d l : Addr} {h1 h2 h3 : Int} {k1 k2 k3 t0 t : Tok} {vs : List Value} {ln : Nat} {rest : Led} {cs : List Int} {p p' : Int}
set_option maxRecDepth 100000 in
set_option maxHeartbeats 8000000 in
theorem c_skip_layout {n : Nat} (K : Tk x d l vs cs rest) (h0 : 0 ≤ p) (R : Lay cs n p p') :
    CallsTo w 3 190 [.ref x] (led x d l h1 h2 h3 k1 k2 k3 t0 vs ln rest p t) (fun r n => r = .none ∧ ∃ t', n = led x d l h1 h2 h3 k1 k2 k3 t0 vs ln rest p' t') False := by
  unfold CallsTo; k_fill
  intro dp un gd cn cS a ccd cl outer A₀ base h₀ L m s pr loose mean mg mb Q E B F X N T hk hd hu ret _
  have K0 := K
  obtain ⟨hi, hcs, hlen, hx, hl, hr⟩ := K0
  refine wpAny_call ?_
  k_dflt ktr_enter
  walk_at "my_steps"
  rename Fr _ _ _ _ => F1
  rename News _ _ _ _ => N1
  refine ksw_while (σ := Int × Tok × Nat) (fun c => led x d l h1 h2 h3 k1 k2 k3 t0 vs ln rest c.1 c.2.1) (fun _ => []) (fun _ => True) [Str.ofString "code"] (fun c => 0 ≤ c.1 ∧ Lay cs c.2.2 c.1 p') (fun c => c.2.2) (p, t, n) F1 N1 trivial (fun _ h => nomatch h) ⟨h0, R⟩ ?_
  rintro ⟨q, tq, nq⟩ u h9 tk9 - ⟨hq0, hR⟩ F9 N9
  dsimp only at hq0 hR N9
  clear F1 N1 R
  cases hR with
  | stop g1 g2 g3 =>
    walk_at "my_steps"
    all_goals (first
      | (exfalso; omega)
      | (exact ret _ _ _ _ (by assumption) (by assumption) ⟨rfl, _, rfl⟩))
  | @lay nq' _ _ g1 r =>
    walk_at "my_steps"
    all_goals (first
      | (exfalso; omega)
      | (rename News _ _ _ _ => N2
         rename Fr _ _ _ _ => F2
         refine ksw_end (q + 1, _, nq') F2 N2 (fun _ h => h) trivial (fun _ h => nomatch h) (by walk_at "my_same") ⟨by dsimp only; omega, r⟩ (Nat.lt_succ_self _)))
  | @row nq' _ q' _ g1 g2 r =>
    have hle := g2.le
    walk_at "my_steps"
    all_goals (first
      | (exfalso; omega)
      | (rename News _ _ _ _ => N2
         rename Fr _ _ _ _ => F2
         refine ksw_end (q', _, nq') F2 N2 (fun _ h => h) trivial (fun _ h => nomatch h) (by walk_at "my_same") ⟨by dsimp only; omega, r⟩ (Nat.lt_succ_self _)))
  | @rem nq' _ q' _ g1 g2 g3 r =>
    have hle := g3.le
    walk_at "my_steps"
    all_goals (first
      | (exfalso; omega)
      | (rename News _ _ _ _ => N2
         rename Fr _ _ _ _ => F2
         refine ksw_end (q' + 2, _, nq') F2 N2 (fun _ h => h) trivial (fun _ h => nomatch h) (by walk_at "my_same") ⟨by dsimp only; omega, r⟩ (Nat.lt_succ_self _)))
end
end
section
theorem fresh_B5 : True := by
  w_top off
  trivial
theorem codes_sub {cs : List Int} {a b : Nat} (h : ∀ c ∈ cs, 0 ≤ c ∧ c < 128) : ∀ c ∈ (cs.drop b).take a, 0 ≤ c ∧ c < 128 := fun c hc => h c (List.mem_of_mem_drop (List.mem_of_mem_take hc))
def part (cs : List Int) (p e : Int) : List Int := (cs.drop p.toNat).take (e.toNat - p.toNat)
theorem part_of {cs : List Int} {p e : Int} : (cs.drop p.toNat).take (min e.toNat cs.length - p.toNat) = part cs p e := by
  unfold part
  rw [List.take_eq_take_iff, List.length_drop]
  omega
local macro_rules | `(tactic| walk_at "call ref") => `(tactic| (k_here; (with_reducible show wpAny _ _ (call (Value.ref _) [Value.int _ _]) _ _ _); k_dflt (refine' calls_A ?k1 ?k2 ?k3 ?k4 ?k5 ?k6 c_is_symbol ?k7 ?k8 ?_; (case k1 => k_asm); (case k2 => k_asm); (case k3 => k_asm); (case k4 => k_asm); (case k5 => k_asm); (case k6 => first | exact rfl | assumption); (case k7 => ktr_room); (case k8 => ktr_units); k_whole; intro h9 tk9 F9 N9; (try dsimp only); (try k_sweep))))
local macro_rules | `(tactic| walk_at "call ref") => `(tactic| (k_here; (with_reducible show wpAny _ _ (call (Value.ref _) [Value.ref _]) _ _ _); k_dflt (refine' calls_B ?k1 ?k2 ?k3 ?k4 ?k5 ?k6 (c_codes_text ?ml ?hi ?hc ?hn) ?k7 ?k8 ?_; (case k1 => k_asm); (case k2 => k_asm); (case k3 => k_asm); (case k4 => k_asm); (case k5 => k_asm); (case k6 => first | exact rfl | assumption); (case ml => k_mem); (case hi => assumption); (case hc => exact codes_sub (by assumption)); (case hn => omega); (case k7 => ktr_room); (case k8 => ktr_units); k_whole; intro t9 h9 tk9 F9 N9; (try dsimp only); (try k_sweep))))
section
variable {w : World} {x d l : Addr} {h1 h2 h3 : Int} {k1 k2 k3 t0 t : Tok} {vs : List Value} {ln : Nat} {rest : Led} {cs : List Int} {p p' : Int}
set_option maxRecDepth 100000 in
set_option maxHeartbeats 4000000 in
theorem c_word {q : Int} {tp : Tok} (K : Tk x d l vs cs rest) (h0 : 0 ≤ p) (hp : p ≤ p') (hmid : ∀ j, p ≤ j → j < p' → isAlnum (codeAt cs j) = true) (hend : isAlnum (codeAt cs p') = false) :
    CallsTo w 4 211 [.ref x, .int p tp] (led x d l h1 h2 h3 k1 k2 k3 t0 vs ln rest q t) (fun r n => (∃ t', r = .str (txt (part cs p p')) t') ∧ ∃ t', n = led x d l h1 h2 h3 k1 k2 k3 t0 vs ln rest p' t') False := by
  unfold CallsTo; k_fill
  intro dp un gd cn cS a ccd cl outer A₀ base h₀ L m s pr loose mean mg mb Q E B F X N T hk hd hu ret _
  obtain ⟨hi, hcs, hlen, hx, hl, hr⟩ := K
  refine wpAny_call ?_
  k_dflt ktr_enter
  walk_at "my_steps"
  rename Fr _ _ _ _ => F1
  rename News _ _ _ _ => N1
  refine ksw_while (σ := Int × Tok) (fun _ => led x d l h1 h2 h3 k1 k2 k3 t0 vs ln rest q t) (fun c => [(Str.ofString "end", .int c.1 c.2)]) (fun _ => True) [] (fun c => p ≤ c.1 ∧ c.1 ≤ p') (fun c => (p' - c.1).toNat) (p, tp) F1 N1 trivial (by intro z hz; rw [List.mem_singleton.mp hz]; rfl) ⟨Int.le_refl _, hp⟩ ?_
  rintro ⟨e, te⟩ u h9 tk9 - ⟨hq1, hq2⟩ F9 N9
  dsimp only at hq1 hq2 N9 F9
  have hq0 : 0 ≤ e := by omega
  clear F1 N1
  rcases Int.lt_or_le e p' with he | he
  · have hf := hmid e hq1 he
    walk_at "my_steps"
    rename News _ _ _ _ => N2
    rename Fr _ _ _ _ => F2
    refine ksw_end (e + 1, _) F2 N2 (fun _ h => h) trivial (by intro z hz; rw [List.mem_singleton.mp hz]; rfl) (by walk_at "my_same") ⟨by dsimp only; omega, by dsimp only; omega⟩ (by dsimp only; omega)
  · obtain rfl : e = p' := by omega
    walk_at "my_steps"
    rename News _ _ _ _ => N2
    rename Fr _ _ _ _ => F2
    exact ret _ _ _ _ F2 (cb_drop N2 fun p hp => .tail _ hp) ⟨⟨_, by rw [part_of]⟩, _, rfl⟩
end
end
section
theorem fresh_B6 : True := by
  w_top off
  trivial
local macro_rules | `(tactic| walk_at "call ref") => `(tactic| (k_here; (with_reducible show wpAny _ _ (call (Value.ref _) [Value.int _ _]) _ _ _); k_dflt (refine' calls_A ?k1 ?k2 ?k3 ?k4 ?k5 ?k6 c_is_symbol ?k7 ?k8 ?_; (case k1 => k_asm); (case k2 => k_asm); (case k3 => k_asm); (case k4 => k_asm); (case k5 => k_asm); (case k6 => first | exact rfl | assumption); (case k7 => ktr_room); (case k8 => ktr_units); k_whole; intro h9 tk9 F9 N9; (try dsimp only); (try k_sweep))))
local macro_rules | `(tactic| walk_at "call ref") => `(tactic| (k_here; (with_reducible show wpAny _ _ (call (Value.ref _) [Value.ref _]) _ _ _); k_dflt (refine' calls_B ?k1 ?k2 ?k3 ?k4 ?k5 ?k6 (c_codes_text ?ml ?hi ?hc ?hn) ?k7 ?k8 ?_; (case k1 => k_asm); (case k2 => k_asm); (case k3 => k_asm); (case k4 => k_asm); (case k5 => k_asm); (case k6 => first | exact rfl | assumption); (case ml => k_mem); (case hi => assumption); (case hc => exact codes_sub (by assumption)); (case hn => omega); (case k7 => ktr_room); (case k8 => ktr_units); k_whole; intro t9 h9 tk9 F9 N9; (try dsimp only); (try k_sweep))))
abbrev tokO (knd : String) (v : Value) (p : Int) (ta tb : Tok) : Obj := { cls := .type "tuple", data := .seq #[.str (Str.ofString knd) ta, v, .int p tb] }
def TokPost (d : Addr) (ld : Int → Tok → Led) (knd : String) (val : Tok → Value) (p p' : Int) (r : Value) (n : Led) : Prop :=
  ∃ (a : Addr) (ta tv tb t' : Tok), r = .ref a ∧ a ≠ d ∧ n = (a, tokO knd (val tv) p ta tb) :: ld p' t'
theorem drop1 {a : Addr × Obj} {l l' : Led} (h : ∀ p ∈ l, p ∈ l') : ∀ p ∈ l, p ∈ a :: l' := fun p hp => .tail _ (h p hp)
theorem drop2 {a : Addr × Obj} {l l' : Led} (h : ∀ p ∈ l, p ∈ l') : ∀ p ∈ a :: l, p ∈ a :: l' := fun p hp => by
  rcases List.mem_cons.mp hp with rfl | hp
  · exact .head _
  · exact .tail _ (h p hp)
section
variable {w : World} {x d l : Addr} {h1 h2 h3 : Int} {k1 k2 k3 t0 t : Tok} {vs : List Value} {ln : Nat} {rest : Led} {cs : List Int} {p p' : Int}
set_option maxRecDepth 100000 in
set_option maxHeartbeats 4000000 in
theorem c_symbol {q : Int} {tp : Tok} (K : Tk x d l vs cs rest) (h0 : 0 ≤ p) (hp : p ≤ p') (hmid : ∀ j, p ≤ j → j < p' → isSymbol (codeAt cs j) = true) (hend : isSymbol (codeAt cs p') = false) (hdot : codeAt cs p ≠ 46) :
    CallsTo w 4 218 [.ref x, .int p tp] (led x d l h1 h2 h3 k1 k2 k3 t0 vs ln rest q t) (TokPost d (led x d l h1 h2 h3 k1 k2 k3 t0 vs ln rest) "name" (fun t => .str (txt (part cs p p')) t) p p') False := by
  unfold CallsTo; k_fill
  intro dp un gd cn cS a ccd cl outer A₀ base h₀ L m s pr loose mean mg mb Q E B F X N T hk hd hu ret _
  obtain ⟨hi, hcs, hlen, hx, hl, hr⟩ := K
  refine wpAny_call ?_
  k_dflt ktr_enter
  walk_at "my_steps"
  rename Fr _ _ _ _ => F1
  rename News _ _ _ _ => N1
  refine ksw_while (σ := Int × Tok) (fun _ => led x d l h1 h2 h3 k1 k2 k3 t0 vs ln rest q t) (fun c => [(Str.ofString "end", .int c.1 c.2)]) (fun _ => True) [] (fun c => p ≤ c.1 ∧ c.1 ≤ p') (fun c => (p' - c.1).toNat) (p, tp) F1 N1 trivial (by intro z hz; rw [List.mem_singleton.mp hz]; rfl) ⟨Int.le_refl _, hp⟩ ?_
  rintro ⟨e, te⟩ u h9 tk9 - ⟨hq1, hq2⟩ F9 N9
  dsimp only at hq1 hq2 N9 F9
  have hq0 : 0 ≤ e := by omega
  clear F1 N1
  rcases Int.lt_or_le e p' with he | he
  · have hf := hmid e hq1 he
    walk_at "my_steps"
    rename News _ _ _ _ => N2
    rename Fr _ _ _ _ => F2
    refine ksw_end (e + 1, _) F2 N2 (fun _ h => h) trivial (by intro z hz; rw [List.mem_singleton.mp hz]; rfl) (by walk_at "my_same") ⟨by dsimp only; omega, by dsimp only; omega⟩ (by dsimp only; omega)
  · obtain rfl : e = p' := by omega
    walk_at "my_steps"
    rename News _ _ _ _ => N2
    rename Fr _ _ _ _ => F2
    rename (_ < _ ∧ _) => hlt
    exact ret _ _ _ _ F2 (cb_drop N2 (drop2 (drop1 (fun _ h => h)))) ⟨_, _, _, _, _, rfl, Nat.ne_of_gt (by omega), by rw [part_of]⟩
end
end
section
theorem fresh_B7 : True := by
  w_top off
  trivial
local macro_rules | `(tactic| walk_at "call ref") => `(tactic| (k_here; (with_reducible show wpAny _ _ (call (Value.ref _) [Value.int _ _]) _ _ _); k_dflt (refine' calls_A ?k1 ?k2 ?k3 ?k4 ?k5 ?k6 c_is_symbol ?k7 ?k8 ?_; (case k1 => k_asm); (case k2 => k_asm); (case k3 => k_asm); (case k4 => k_asm); (case k5 => k_asm); (case k6 => first | exact rfl | assumption); (case k7 => ktr_room); (case k8 => ktr_units); k_whole; intro h9 tk9 F9 N9; (try dsimp only); (try k_sweep))))
local macro_rules | `(tactic| walk_at "call ref") => `(tactic| (k_here; (with_reducible show wpAny _ _ (call (Value.ref _) [Value.ref _]) _ _ _); k_dflt (refine' calls_B ?k1 ?k2 ?k3 ?k4 ?k5 ?k6 (c_codes_text ?ml ?hi ?hc ?hn) ?k7 ?k8 ?_; (case k1 => k_asm); (case k2 => k_asm); (case k3 => k_asm); (case k4 => k_asm); (case k5 => k_asm); (case k6 => first | exact rfl | assumption); (case ml => k_mem); (case hi => assumption); (case hc => exact codes_sub (by assumption)); (case hn => omega); (case k7 => ktr_room); (case k8 => ktr_units); k_whole; intro t9 h9 tk9 F9 N9; (try dsimp only); (try k_sweep))))
def numOf (b : Int) (ds : List Int) : Int := ds.foldl (fun v d => v * b + d) 0
structure Digs (cs : List Int) (b : Int) (i : Int) (ds : List Int) : Prop where
  base : b = 2 ∨ b = 8 ∨ b = 10 ∨ b = 16
  mid : ∀ k : Nat, k < ds.length → ∃ z, ds[k]? = some z ∧ digitValue (codeAt cs (i + k)) = z ∧ 0 ≤ z ∧ z < b
  fin : digitValue (codeAt cs (i + ds.length)) < 0 ∨ b ≤ digitValue (codeAt cs (i + ds.length))
theorem numOf_snoc {b z : Int} {ds : List Int} {k : Nat} (h : ds[k]? = some z) : numOf b (ds.take (k + 1)) = numOf b (ds.take k) * b + z := by
  unfold numOf
  rw [List.take_add_one, h]; simp
theorem mul_fit {a b : Int} (h : b = 2 ∨ b = 8 ∨ b = 10 ∨ b = 16) : IntMulOk a b := by
  refine IntMulOk.of_right ?_
  rcases h with rfl | rfl | rfl | rfl <;> decide
local macro_rules | `(tactic| walk_at "binaryOp Mult int int") => `(tactic| (k_here; refine mul_int ?_ (mul_fit (by assumption))))
section
variable {w : World} {x d l : Addr} {h1 h2 h3 : Int} {k1 k2 k3 t0 t : Tok} {vs : List Value} {ln : Nat} {rest : Led} {cs : List Int} {p p' : Int}
set_option maxRecDepth 100000 in
set_option maxHeartbeats 4000000 in
theorem c_digits {q i b : Int} {ti tb : Tok} {ds : List Int} (K : Tk x d l vs cs rest) (h0 : 0 ≤ i) (D : Digs cs b i ds) :
    CallsTo w 4 239 [.ref x, .int i ti, .int b tb] (led x d l h1 h2 h3 k1 k2 k3 t0 vs ln rest q t) (fun r n => (∃ t', r = .int (numOf b ds) t') ∧ ∃ t', n = led x d l h1 h2 h3 k1 k2 k3 t0 vs ln rest (i + ds.length) t') False := by
  unfold CallsTo; k_fill
  intro dp un gd cn cS a ccd cl outer A₀ base h₀ L m s pr loose mean mg mb Q E B F X N T hk hd hu ret _
  obtain ⟨hi, hcs, hlen, hx, hl, hr⟩ := K
  obtain ⟨hb, hmid, hfin⟩ := D
  refine wpAny_call ?_
  k_dflt ktr_enter
  walk_at "my_steps"
  rename Fr _ _ _ _ => F1
  rename News _ _ _ _ => N1
  refine ksw_while (σ := Nat × Tok × Tok) (fun _ => led x d l h1 h2 h3 k1 k2 k3 t0 vs ln rest q t) (fun c => [(Str.ofString "value", .int (numOf b (ds.take c.1)) c.2.1), (Str.ofString "index", .int (i + c.1) c.2.2)]) (fun _ => True) [Str.ofString "digit"] (fun c => c.1 ≤ ds.length) (fun c => ds.length - c.1) (0, _, ti) F1 N1 trivial (by intro z hz; simp only [List.mem_cons, List.not_mem_nil, or_false] at hz; rcases hz with rfl | rfl <;> first | rfl | (dsimp only; rw [show i + ((0 : Nat) : Int) = i by omega]; rfl)) (Nat.zero_le _) ?_
  rintro ⟨k, tv, tj⟩ u h9 tk9 - hk9 F9 N9
  dsimp only at hk9 N9 F9
  have hq0 : 0 ≤ i + (k : Int) := by omega
  clear F1 N1
  rcases Nat.lt_or_ge k ds.length with he | he
  · obtain ⟨z, hz, hz1, hz2, hz3⟩ := hmid k he
    walk_at "my_steps"
    all_goals (try (exfalso; omega))
    rename News _ _ _ _ => N2
    rename Fr _ _ _ _ => F2
    refine' ksw_end (k + 1, _, _) F2 N2 (fun _ h => h) trivial ?nm (by walk_at "my_same") (by dsimp only; omega) (by dsimp only; omega)
    case nm =>
    intro y hy
    simp only [List.mem_cons, List.not_mem_nil, or_false] at hy
    rcases hy with rfl | rfl
    · dsimp only
      rw [numOf_snoc hz, ← hz1]; rfl
    · dsimp only
      rw [show i + ((k + 1 : Nat) : Int) = i + (k : Int) + 1 by omega]; rfl
  · obtain rfl : k = ds.length := by omega
    walk_at "my_steps"
    all_goals exact ret _ _ _ _ (by assumption) (by assumption) ⟨⟨_, by rw [List.take_length]⟩, _, rfl⟩
end
end
section
local macro_rules | `(tactic| walk_at "pad0") => `(tactic| skip)
theorem fresh_B8 : True := by
  w_top off
  trivial
abbrev isQuotable (c : Int) : Bool := decide (32 ≤ c ∧ c ≠ 127 ∧ c ≤ 1114111)
section
variable {w : World} {c : Int} {tc : Tok} {news : Led}
set_option maxRecDepth 100000 in
set_option maxHeartbeats 4000000 in
theorem c_is_quotable : CallsTo w 1 102 [.int c tc] news (fun r n => r = .bool (isQuotable c) ∧ n = news) False := by
  unfold CallsTo; k_fill
  intro dp un gd cn cS a ccd cl outer A₀ base h₀ L m s pr loose mean mg mb Q E B F X N T hk hd hu ret _
  refine wpAny_call ?_
  k_dflt ktr_enter
  k_steps
  all_goals (refine ret _ _ _ _ (by assumption) (by assumption) ⟨?_, rfl⟩; unfold isQuotable; first | exact boolT (by omega) | exact boolF (by omega) | exact boolE (by omega) | exact congrArg Value.bool (Bool.eq_iff_iff.mpr (by simp only [bne_iff_ne, decide_eq_true_eq]; omega)))
set_option maxRecDepth 100000 in
set_option maxHeartbeats 4000000 in
theorem c_simple_n (h : c = 110) : CallsTo w 1 126 [.int c tc] news (fun r n => (∃ t, r = .int 10 t) ∧ n = news) False := by
  subst h
  unfold CallsTo; k_fill
  intro dp un gd cn cS a ccd cl outer A₀ base h₀ L m s pr loose mean mg mb Q E B F X N T hk hd hu ret _
  refine wpAny_call ?_
  k_dflt ktr_enter
  k_steps
  · exact ret _ _ _ _ (by assumption) (by assumption) ⟨intE (by rfl), rfl⟩
  · exfalso
    rename List.isEmpty _ = _ => ha
    revert ha
    decide +kernel
set_option maxRecDepth 100000 in
set_option maxHeartbeats 4000000 in
theorem c_simple_x (h : c = 120) : CallsTo w 1 126 [.int c tc] news (fun r n => (∃ t, r = .int (-1) t) ∧ n = news) False := by
  subst h
  unfold CallsTo; k_fill
  intro dp un gd cn cS a ccd cl outer A₀ base h₀ L m s pr loose mean mg mb Q E B F X N T hk hd hu ret _
  refine wpAny_call ?_
  k_dflt ktr_enter
  k_steps
  · exact ret _ _ _ _ (by assumption) (by assumption) ⟨intE (by rfl), rfl⟩
  · exfalso
    rename List.isEmpty _ = _ => ha
    revert ha
    decide +kernel
end
local macro_rules | `(tactic| walk_at "call ref") => `(tactic| (k_here; (with_reducible show wpAny _ _ (call (Value.ref _) [Value.int _ _]) _ _ _); k_dflt (refine' calls_A ?k1 ?k2 ?k3 ?k4 ?k5 ?k6 c_is_quotable ?k7 ?k8 ?_; (case k1 => k_asm); (case k2 => k_asm); (case k3 => k_asm); (case k4 => k_asm); (case k5 => k_asm); (case k6 => first | exact rfl | assumption); (case k7 => ktr_room); (case k8 => ktr_units); k_whole; intro h9 tk9 F9 N9; (try dsimp only); (try k_sweep))))
local macro_rules | `(tactic| walk_at "call ref") => `(tactic| (k_here; (with_reducible show wpAny _ _ (call (Value.ref _) [Value.int _ _]) _ _ _); k_dflt ((first | refine' calls_B ?k1 ?k2 ?k3 ?k4 ?k5 ?k6 (c_simple_n (by assumption)) ?k7 ?k8 ?_ | refine' calls_B ?k1 ?k2 ?k3 ?k4 ?k5 ?k6 (c_simple_x (by assumption)) ?k7 ?k8 ?_); (case k1 => k_asm); (case k2 => k_asm); (case k3 => k_asm); (case k4 => k_asm); (case k5 => k_asm); (case k6 => first | exact rfl | assumption); (case k7 => ktr_room); (case k8 => ktr_units); k_whole; intro t9 h9 tk9 F9 N9; (try dsimp only); (try k_sweep))))
local macro_rules | `(tactic| walk_at "binaryOp Mult int int") => `(tactic| (k_here; refine mul_int ?_ (mul_fit (by assumption))))
section
variable {w : World} {x d l : Addr} {h1 h2 h3 : Int} {k1 k2 k3 t0 t : Tok} {vs : List Value} {ln : Nat} {rest : Led} {cs : List Int} {p p' : Int}
set_option maxRecDepth 100000 in
set_option maxHeartbeats 4000000 in
theorem c_escape_n (K : Tk x d l vs cs rest) (h0 : 0 ≤ p) (e1 : codeAt cs (p + 1) = 110) :
    CallsTo w 4 260 [.ref x] (led x d l h1 h2 h3 k1 k2 k3 t0 vs ln rest p t) (fun r n => (∃ t', r = .int 10 t') ∧ ∃ t', n = led x d l h1 h2 h3 k1 k2 k3 t0 vs ln rest (p + 2) t') False := by
  unfold CallsTo; k_fill
  intro dp un gd cn cS a ccd cl outer A₀ base h₀ L m s pr loose mean mg mb Q E B F X N T hk hd hu ret _
  obtain ⟨hi, hcs, hlen, hx, hl, hr⟩ := K
  refine wpAny_call ?_
  k_dflt ktr_enter
  walk_at "my_steps"
  rename News _ _ _ _ => N2
  rename Fr _ _ _ _ => F2
  rw [show p + 1 + 1 = p + 2 by omega] at N2
  exact ret _ _ _ _ F2 N2 ⟨⟨_, rfl⟩, _, rfl⟩
structure Hex (cs : List Int) (p : Int) (ds : List Int) : Prop where
  e1 : codeAt cs (p + 1) = 120
  dg : Digs cs 16 (p + 1 + 1) ds
  ne : 0 < ds.length
  lo : ∀ k, k ≤ ds.length → 0 ≤ numOf 16 (ds.take k) ∧ numOf 16 (ds.take k) ≤ 1114111
  fin : codeAt cs (p + 1 + 1 + ds.length) = 92
set_option maxRecDepth 100000 in
set_option maxHeartbeats 4000000 in
theorem c_escape_x {ds : List Int} (K : Tk x d l vs cs rest) (h0 : 0 ≤ p) (H : Hex cs p ds) :
    CallsTo w 4 260 [.ref x] (led x d l h1 h2 h3 k1 k2 k3 t0 vs ln rest p t) (fun r n => (∃ t', r = .int (numOf 16 ds) t') ∧ ∃ t', n = led x d l h1 h2 h3 k1 k2 k3 t0 vs ln rest (p + 1 + 1 + ds.length + 1) t') False := by
  unfold CallsTo; k_fill
  intro dp un gd cn cS a ccd cl outer A₀ base h₀ L m s pr loose mean mg mb Q E B F X N T hk hd hu ret _
  obtain ⟨hi, hcs, hlen, hx, hl, hr⟩ := K
  obtain ⟨e1, ⟨hb, hmid, hfin⟩, hne, hlo, hend⟩ := H
  refine wpAny_call ?_
  k_dflt ktr_enter
  walk_at "my_steps"
  rename Fr _ _ _ _ => F1
  rename News _ _ _ _ => N1
  refine' ksw_while (σ := Nat × Tok × Tok) (fun _ => led x d l h1 h2 h3 k1 k2 k3 t0 vs ln rest p t) (fun c => [(Str.ofString "value", .int (numOf 16 (ds.take c.1)) c.2.1), (Str.ofString "index", .int (p + 1 + 1 + c.1) c.2.2)]) (fun _ => True) [Str.ofString "digit"] (fun c => c.1 ≤ ds.length) (fun c => ds.length - c.1) (0, _, _) F1 N1 trivial ?nm (Nat.zero_le _) ?tn
  case nm =>
    intro z hz
    simp only [List.mem_cons, List.not_mem_nil, or_false] at hz
    rcases hz with rfl | rfl
    · rfl
    · dsimp only
      rw [show p + 1 + 1 + ((0 : Nat) : Int) = p + 1 + 1 by omega]; rfl
  case tn =>
  rintro ⟨k, tv, tj⟩ u h9 tk9 - hk9 F9 N9
  dsimp only at hk9 N9 F9
  have hq0 : 0 ≤ p + 1 + 1 + (k : Int) := by omega
  have hv := hlo k hk9
  clear F1 N1
  rcases Nat.lt_or_ge k ds.length with he | he
  · obtain ⟨z, hz, hz1, hz2, hz3⟩ := hmid k he
    walk_at "my_steps"
    all_goals (try (exfalso; omega))
    rename News _ _ _ _ => N2
    rename Fr _ _ _ _ => F2
    refine' ksw_end (k + 1, _, _) F2 N2 (fun _ h => h) trivial ?nm (by walk_at "my_same") (by dsimp only; omega) (by dsimp only; omega)
    case nm =>
    intro y hy
    simp only [List.mem_cons, List.not_mem_nil, or_false] at hy
    rcases hy with rfl | rfl
    · dsimp only
      rw [numOf_snoc hz, ← hz1]; rfl
    · dsimp only
      rw [show p + 1 + 1 + ((k + 1 : Nat) : Int) = p + 1 + 1 + (k : Int) + 1 by omega]; rfl
  · obtain rfl : k = ds.length := by omega
    rw [List.take_length] at hv
    simp only [List.take_length] at F9
    walk_at "my_steps"
    all_goals (try (exfalso; omega))
    all_goals exact ret _ _ _ _ (by assumption) (by assumption) ⟨⟨_, rfl⟩, _, rfl⟩
end
end
section
local macro_rules | `(tactic| walk_at "pad0") => `(tactic| skip)
theorem fresh_B9 : True := by
  w_top off
  trivial
local macro_rules | `(tactic| walk_at "call ref") => `(tactic| (k_here; (with_reducible show wpAny _ _ (call (Value.ref _) [Value.int _ _]) _ _ _); k_dflt (refine' calls_A ?k1 ?k2 ?k3 ?k4 ?k5 ?k6 c_is_quotable ?k7 ?k8 ?_; (case k1 => k_asm); (case k2 => k_asm); (case k3 => k_asm); (case k4 => k_asm); (case k5 => k_asm); (case k6 => first | exact rfl | assumption); (case k7 => ktr_room); (case k8 => ktr_units); k_whole; intro h9 tk9 F9 N9; (try dsimp only); (try k_sweep))))
local macro_rules | `(tactic| walk_at "call ref") => `(tactic| (k_here; (with_reducible show wpAny _ _ (call (Value.ref _) [Value.int _ _]) _ _ _); k_dflt ((first | refine' calls_B ?k1 ?k2 ?k3 ?k4 ?k5 ?k6 (c_simple_n (by assumption)) ?k7 ?k8 ?_ | refine' calls_B ?k1 ?k2 ?k3 ?k4 ?k5 ?k6 (c_simple_x (by assumption)) ?k7 ?k8 ?_); (case k1 => k_asm); (case k2 => k_asm); (case k3 => k_asm); (case k4 => k_asm); (case k5 => k_asm); (case k6 => first | exact rfl | assumption); (case k7 => ktr_room); (case k8 => ktr_units); k_whole; intro t9 h9 tk9 F9 N9; (try dsimp only); (try k_sweep))))
local macro_rules | `(tactic| walk_at "binaryOp Mult int int") => `(tactic| (k_here; refine mul_int ?_ (mul_fit (by assumption))))
local macro_rules | `(tactic| walk_at "call ref") => `(tactic| (k_here; (with_reducible show wpAny _ _ (call (Value.ref _) _) _ _ _); k_dflt ((first | refine' calls_C ?k1 ?k2 ?k3 ?k4 ?k5 ?k6 (c_escape_n ?K ?h0 (by assumption)) ?k7 ?k8 ?_ | refine' calls_C ?k1 ?k2 ?k3 ?k4 ?k5 ?k6 (c_escape_x ?K ?h0 (by assumption)) ?k7 ?k8 ?_); (case k1 => k_asm); (case k2 => k_asm); (case k3 => k_asm); (case k4 => k_asm); (case k5 => k_asm); (case k6 => first | exact rfl | assumption); (case K => assumption); (case h0 => omega); (case k7 => ktr_room); (case k8 => ktr_units); k_whole; intro t9 u9 h9 tk9 F9 N9; (try dsimp only); (try k_sweep))))
section
variable {w : World} {x d l : Addr} {h1 h2 h3 : Int} {k1 k2 k3 t0 t : Tok} {vs : List Value} {ln : Nat} {rest : Led} {cs : List Int} {p p' : Int}
set_option maxRecDepth 100000 in
set_option maxHeartbeats 4000000 in
theorem c_char_plain {q : Int} {tp : Tok} (K : Tk x d l vs cs rest) (h0 : 0 ≤ p) (e1 : 32 ≤ codeAt cs (p + 2) ∧ codeAt cs (p + 2) < 127 ∧ codeAt cs (p + 2) ≠ 92 ∧ codeAt cs (p + 2) ≠ 39) :
    CallsTo w 5 246 [.ref x, .int p tp] (led x d l h1 h2 h3 k1 k2 k3 t0 vs ln rest q t) (fun r n => (∃ t', r = .int (codeAt cs (p + 2)) t') ∧ ∃ t', n = led x d l h1 h2 h3 k1 k2 k3 t0 vs ln rest (p + 3) t') False := by
  unfold CallsTo; k_fill
  intro dp un gd cn cS a ccd cl outer A₀ base h₀ L m s pr loose mean mg mb Q E B F X N T hk hd hu ret _
  have K0 := K
  obtain ⟨hi, hcs, hlen, hx, hl, hr⟩ := K0
  refine wpAny_call ?_
  k_dflt ktr_enter
  walk_at "my_steps"
  exact ret _ _ _ _ (by assumption) (by assumption) ⟨⟨_, rfl⟩, _, rfl⟩
set_option maxRecDepth 100000 in
set_option maxHeartbeats 4000000 in
theorem c_char_quote {q : Int} {tp : Tok} (K : Tk x d l vs cs rest) (h0 : 0 ≤ p) (e1 : codeAt cs (p + 2) = 39) (e2 : codeAt cs (p + 3) = 39) :
    CallsTo w 5 246 [.ref x, .int p tp] (led x d l h1 h2 h3 k1 k2 k3 t0 vs ln rest q t) (fun r n => (∃ t', r = .int 39 t') ∧ ∃ t', n = led x d l h1 h2 h3 k1 k2 k3 t0 vs ln rest (p + 4) t') False := by
  unfold CallsTo; k_fill
  intro dp un gd cn cS a ccd cl outer A₀ base h₀ L m s pr loose mean mg mb Q E B F X N T hk hd hu ret _
  have K0 := K
  obtain ⟨hi, hcs, hlen, hx, hl, hr⟩ := K0
  refine wpAny_call ?_
  k_dflt ktr_enter
  walk_at "my_steps"
  exact ret _ _ _ _ (by assumption) (by assumption) ⟨⟨_, rfl⟩, _, rfl⟩
set_option maxRecDepth 100000 in
set_option maxHeartbeats 4000000 in
theorem c_char_n {q : Int} {tp : Tok} (K : Tk x d l vs cs rest) (h0 : 0 ≤ p) (e1 : codeAt cs (p + 2) = 92) (e2 : codeAt cs (p + 2 + 1) = 110) :
    CallsTo w 6 246 [.ref x, .int p tp] (led x d l h1 h2 h3 k1 k2 k3 t0 vs ln rest q t) (fun r n => (∃ t', r = .int 10 t') ∧ ∃ t', n = led x d l h1 h2 h3 k1 k2 k3 t0 vs ln rest (p + 2 + 2) t') False := by
  unfold CallsTo; k_fill
  intro dp un gd cn cS a ccd cl outer A₀ base h₀ L m s pr loose mean mg mb Q E B F X N T hk hd hu ret _
  have K0 := K
  obtain ⟨hi, hcs, hlen, hx, hl, hr⟩ := K0
  refine wpAny_call ?_
  k_dflt ktr_enter
  walk_at "my_steps"
  exact ret _ _ _ _ (by assumption) (by assumption) ⟨⟨_, rfl⟩, _, rfl⟩
set_option maxRecDepth 100000 in
set_option maxHeartbeats 4000000 in
theorem c_char_x {q : Int} {tp : Tok} {ds : List Int} (K : Tk x d l vs cs rest) (h0 : 0 ≤ p) (e1 : codeAt cs (p + 2) = 92) (H : Hex cs (p + 2) ds) :
    CallsTo w 6 246 [.ref x, .int p tp] (led x d l h1 h2 h3 k1 k2 k3 t0 vs ln rest q t) (fun r n => (∃ t', r = .int (numOf 16 ds) t') ∧ ∃ t', n = led x d l h1 h2 h3 k1 k2 k3 t0 vs ln rest (p + 2 + 1 + 1 + ds.length + 1) t') False := by
  unfold CallsTo; k_fill
  intro dp un gd cn cS a ccd cl outer A₀ base h₀ L m s pr loose mean mg mb Q E B F X N T hk hd hu ret _
  have K0 := K
  obtain ⟨hi, hcs, hlen, hx, hl, hr⟩ := K0
  have hv := (H.lo ds.length (Nat.le_refl _)).1
  rw [List.take_length] at hv
  refine wpAny_call ?_
  k_dflt ktr_enter
  walk_at "my_steps"
  exact ret _ _ _ _ (by assumption) (by assumption) ⟨⟨_, rfl⟩, _, rfl⟩
end
end
section
theorem fresh_BA : True := by
  w_top off
  trivial
structure CharTo (w : World) (x d l : Addr) (h1 h2 h3 : Int) (k1 k2 k3 t0 : Tok) (vs : List Value) (ln : Nat) (rest : Led) (p v p' : Int) : Prop where
  out : ∀ (q : Int) (t tp : Tok), CallsTo w 6 246 [.ref x, .int p tp] (led x d l h1 h2 h3 k1 k2 k3 t0 vs ln rest q t) (fun r n => (∃ t', r = .int v t') ∧ ∃ t', n = led x d l h1 h2 h3 k1 k2 k3 t0 vs ln rest p' t') False
local macro_rules | `(tactic| walk_at "call ref") => `(tactic| (k_here; (with_reducible show wpAny _ _ (call (Value.ref _) [Value.ref _, Value.int _ _]) _ _ _); k_dflt (refine' calls_C ?k1 ?k2 ?k3 ?k4 ?k5 ?k6 (CharTo.out (by assumption) _ _ _) ?k7 ?k8 ?_; (case k1 => k_asm); (case k2 => k_asm); (case k3 => k_asm); (case k4 => k_asm); (case k5 => k_asm); (case k6 => first | exact rfl | assumption); (case k7 => ktr_room); (case k8 => ktr_units); k_whole; intro t9 u9 h9 tk9 F9 N9; (try dsimp only); (try k_sweep))))
local macro_rules | `(tactic| walk_at "call ref") => `(tactic| (k_here; (with_reducible show wpAny _ _ (call (Value.ref _) [Value.ref _, Value.int _ _, Value.int _ _]) _ _ _); k_dflt (refine' calls_C ?k1 ?k2 ?k3 ?k4 ?k5 ?k6 (c_digits ?K ?h0 (by assumption)) ?k7 ?k8 ?_; (case k1 => k_asm); (case k2 => k_asm); (case k3 => k_asm); (case k4 => k_asm); (case k5 => k_asm); (case k6 => first | exact rfl | assumption); (case K => assumption); (case h0 => omega); (case k7 => ktr_room); (case k8 => ktr_units); k_whole; intro t9 u9 h9 tk9 F9 N9; (try dsimp only); (try k_sweep))))
section
variable {w : World} {x d l : Addr} {h1 h2 h3 : Int} {k1 k2 k3 t0 t : Tok} {vs : List Value} {ln : Nat} {rest : Led} {cs : List Int} {p p' : Int}
set_option maxRecDepth 100000 in
set_option maxHeartbeats 4000000 in
theorem c_num_char {q v : Int} {tp : Tok} (K : Tk x d l vs cs rest) (h0 : 0 ≤ p) (e1 : codeAt cs p = 48) (e2 : codeAt cs (p + 1) = 39)
    (C : CharTo w x d l h1 h2 h3 k1 k2 k3 t0 vs ln rest p v p') :
    CallsTo w 8 232 [.ref x, .int p tp] (led x d l h1 h2 h3 k1 k2 k3 t0 vs ln rest q t) (TokPost d (led x d l h1 h2 h3 k1 k2 k3 t0 vs ln rest) "int" (fun t => .int v t) p p') False := by
  unfold CallsTo; k_fill
  intro dp un gd cn cS a ccd cl outer A₀ base h₀ L m s pr loose mean mg mb Q E B F X N T hk hd hu ret _
  have K0 := K
  obtain ⟨hi, hcs, hlen, hx, hl, hr⟩ := K0
  refine wpAny_call ?_
  k_dflt ktr_enter
  walk_at "my_steps"
  rename News _ _ _ _ => N2
  rename Fr _ _ _ _ => F2
  rename (_ < _ ∧ _) => hlt
  exact ret _ _ _ _ F2 N2 ⟨_, _, _, _, _, rfl, Nat.ne_of_gt (by omega), rfl⟩
set_option maxRecDepth 100000 in
set_option maxHeartbeats 4000000 in
theorem c_num_base {q : Int} {tp : Tok} {ds : List Int} (K : Tk x d l vs cs rest) (h0 : 0 ≤ p) (e1 : codeAt cs p = 48) (e2 : codeAt cs (p + 1) ≠ 39)
    (e3 : 0 ≤ digitValue (codeAt cs (p + 2)) ∧ digitValue (codeAt cs (p + 2)) < numeralBase (codeAt cs (p + 1))) (D : Digs cs (numeralBase (codeAt cs (p + 1))) (p + 2) ds) :
    CallsTo w 8 232 [.ref x, .int p tp] (led x d l h1 h2 h3 k1 k2 k3 t0 vs ln rest q t) (TokPost d (led x d l h1 h2 h3 k1 k2 k3 t0 vs ln rest) "int" (fun t => .int (numOf (numeralBase (codeAt cs (p + 1))) ds) t) p (p + 2 + ds.length)) False := by
  unfold CallsTo; k_fill
  intro dp un gd cn cS a ccd cl outer A₀ base h₀ L m s pr loose mean mg mb Q E B F X N T hk hd hu ret _
  have K0 := K
  obtain ⟨hi, hcs, hlen, hx, hl, hr⟩ := K0
  refine wpAny_call ?_
  k_dflt ktr_enter
  walk_at "my_steps"
  rename News _ _ _ _ => N2
  rename Fr _ _ _ _ => F2
  rename (_ < _ ∧ _) => hlt
  exact ret _ _ _ _ F2 N2 ⟨_, _, _, _, _, rfl, Nat.ne_of_gt (by omega), rfl⟩
set_option maxRecDepth 100000 in
set_option maxHeartbeats 4000000 in
theorem c_num_dec {q : Int} {tp : Tok} {ds : List Int} (K : Tk x d l vs cs rest) (h0 : 0 ≤ p) (e1 : codeAt cs p ≠ 48 ∨ (codeAt cs (p + 1) ≠ 39 ∧ (digitValue (codeAt cs (p + 2)) < 0 ∨ numeralBase (codeAt cs (p + 1)) ≤ digitValue (codeAt cs (p + 2)))))
    (D : Digs cs 10 p ds) (e3 : codeAt cs (p + ds.length) ≠ 46 ∨ ¬ (48 ≤ codeAt cs (p + ds.length + 1) ∧ codeAt cs (p + ds.length + 1) ≤ 57)) :
    CallsTo w 8 232 [.ref x, .int p tp] (led x d l h1 h2 h3 k1 k2 k3 t0 vs ln rest q t) (TokPost d (led x d l h1 h2 h3 k1 k2 k3 t0 vs ln rest) "int" (fun t => .int (numOf 10 ds) t) p (p + ds.length)) False := by
  unfold CallsTo; k_fill
  intro dp un gd cn cS a ccd cl outer A₀ base h₀ L m s pr loose mean mg mb Q E B F X N T hk hd hu ret _
  have K0 := K
  obtain ⟨hi, hcs, hlen, hx, hl, hr⟩ := K0
  refine wpAny_call ?_
  k_dflt ktr_enter
  rcases e1 with e1 | ⟨e1, e2⟩
  · rcases e3 with e3 | e3 <;> walk_at "my_steps" <;> first
      | (exfalso; omega)
      | (rename News _ _ _ _ => N2
         rename Fr _ _ _ _ => F2
         rename (_ < _ ∧ _) => hlt
         exact ret _ _ _ _ F2 N2 ⟨_, _, _, _, _, rfl, Nat.ne_of_gt (by omega), rfl⟩)
  · rcases e3 with e3 | e3 <;> walk_at "my_steps" <;> first
      | (exfalso; omega)
      | (rename News _ _ _ _ => N2
         rename Fr _ _ _ _ => F2
         rename (_ < _ ∧ _) => hlt
         exact ret _ _ _ _ F2 N2 ⟨_, _, _, _, _, rfl, Nat.ne_of_gt (by omega), rfl⟩)
end
end
section
theorem fresh_BB : True := by
  w_top off
  trivial
section
variable {w : World} {x d l : Addr} {h1 h2 h3 : Int} {k1 k2 k3 t0 t : Tok} {vs : List Value} {ln : Nat} {rest : Led} {cs : List Int} {p p' : Int}
set_option maxRecDepth 100000 in
set_option maxHeartbeats 4000000 in
theorem c_place {q i : Int} {ti : Tok} (K : Tk x d l vs cs rest) (h0 : 0 ≤ i) :
    CallsTo w 3 162 [.ref x, .int i ti] (led x d l h1 h2 h3 k1 k2 k3 t0 vs ln rest q t) (fun r n => ∃ (a : Addr) (r1 r2 : Int) (t1 t2 : Tok), r = .ref a ∧ a ≠ d ∧ n = (a, { cls := .type "tuple", data := .seq #[.int r1 t1, .int r2 t2] }) :: led x d l h1 h2 h3 k1 k2 k3 t0 vs ln rest q t) False := by
  unfold CallsTo; k_fill
  intro dp un gd cn cS a ccd cl outer A₀ base h₀ L m s pr loose mean mg mb Q E B F X N T hk hd hu ret _
  have K0 := K
  obtain ⟨hi, hcs, hlen, hx, hl, hr⟩ := K0
  refine wpAny_call ?_
  k_dflt ktr_enter
  walk_at "my_steps"
  rename Fr _ _ _ _ => F1
  rename News _ _ _ _ => N1
  refine' ksw_while (σ := Int × Int × Int × Tok × Tok × Tok) (fun _ => led x d l h1 h2 h3 k1 k2 k3 t0 vs ln rest q t) (fun c => [(Str.ofString "row", .int c.1 c.2.2.2.1), (Str.ofString "column", .int c.2.1 c.2.2.2.2.1), (Str.ofString "index", .int c.2.2.1 c.2.2.2.2.2)]) (fun _ => True) [] (fun c => 0 ≤ c.2.2.1) (fun c => (cs.length - c.2.2.1).toNat) (1, 1, 0, _, _, _) F1 N1 trivial ?nm (Int.le_refl _) ?tn
  case nm =>
    intro z hz
    simp only [List.mem_cons, List.not_mem_nil, or_false] at hz
    rcases hz with rfl | rfl | rfl <;> rfl
  case tn =>
  rintro ⟨r1, r2, j, u1, u2, u3⟩ u h9 tk9 - hk9 F9 N9
  dsimp only at hk9 N9 F9
  clear F1 N1
  walk_at "my_steps"
  all_goals rename News _ _ _ _ => N2
  all_goals rename Fr _ _ _ _ => F2
  iterate 2
    · refine' ksw_end (_, _, j + 1, _, _, _) F2 N2 (fun _ h => h) trivial ?nm (by walk_at "my_same") (by dsimp only; omega) (by dsimp only; omega)
      case nm =>
      intro y hy
      simp only [List.mem_cons, List.not_mem_nil, or_false] at hy
      rcases hy with rfl | rfl | rfl <;> rfl
  all_goals
    rename (_ < _ ∧ _) => hlt
    exact ret _ _ _ _ F2 N2 ⟨_, _, _, _, _, rfl, Nat.ne_of_gt (by omega), rfl⟩
end
end
section
open PySem.W.X PySem.W.XRun
theorem fresh_BC : True := by
  w_top off
  trivial
abbrev excO (t dx : Addr) : Obj := { cls := .ref 51, dict := some dx, data := .fields #[.ref t, .none, .none, .none, .bool false, .none] }
structure FaultEnd (h0 : Heap) (g : Array GenState) (d : Drawn) (os : OsState) (Q : Value → Shared → Prop) : Prop where
  out : ∀ (e t dx : Addr) (h' : Heap) (tk : Nat) (news : List (Addr × Obj)), Mem h0 h' [] news → (e, excO t dx) ∈ news → Q (.ref e) ⟨h', g, d, tk, os⟩
local macro_rules | `(tactic| x_close) => `(tactic| (exact FaultEnd.out (by assumption) _ _ _ _ _ _ (by assumption) (by k_mem)))
theorem wpAny_deep {α : Type} {M : Model} {A : Around} {t : Sem α} {Q : α → Shared → Prop} {E : Value → Shared → Prop} {s : Shared} (D U : Nat) (hd : A.depth ≤ D) (hu : A.units ≤ U)
    (h : wpAny M { handled := A.handled, depth := D, frames := A.frames, guards := A.guards, units := U } t Q E s) : wpAny M A t Q E s :=
  fun Γ p hΓ => h Γ p ⟨hΓ.1, Nat.le_trans hΓ.2.1 hd, hΓ.2.2.1, hΓ.2.2.2.1, Nat.le_trans hΓ.2.2.2.2 hu⟩
set_option maxRecDepth 100000 in
set_option maxHeartbeats 4000000 in
theorem make_fault0 {prog : Program} {w : World} {hh : Option Value} {fr : Option (List Env)} {gd : Option (List Code)} {h : Heap} {g : Array GenState} {d : Drawn} {tk : Nat} {os : OsState} {knd : Str} {a b c : Int} {t0 t1 t2 t3 : Tok} {Q E : Value → Shared → Prop}
    (X : (hd.heap_39 w.params).In h) (H : FaultEnd h g d os Q) :
    wpAny (model prog w) { handled := hh, depth := 900, frames := fr, guards := gd, units := 9000 } (call (.ref 51) [.str knd t0, .int a t1, .int b t2, .int c t3]) Q E ⟨h, g, d, tk, os⟩ := by
  revert X; k_fill; intro X
  x_run
theorem make_fault {prog : Program} {w : World} {A : Around} {h : Heap} {g : Array GenState} {d : Drawn} {tk : Nat} {os : OsState} {knd : Str} {a b c : Int} {t0 t1 t2 t3 : Tok} {Q E : Value → Shared → Prop}
    (X : (hd.heap_39 w.params).In h) (hd : A.depth ≤ 900) (hu : A.units ≤ 9000) (H : FaultEnd h g d os Q) :
    wpAny (model prog w) A (call (.ref 51) [.str knd t0, .int a t1, .int b t2, .int c t3]) Q E ⟨h, g, d, tk, os⟩ :=
  wpAny_deep 900 9000 hd hu (make_fault0 X H)

section
variable {w : World} {A : Around} {E : Value → Shared → Prop} {s s' : Shared} {base g h₀ : Heap} {outer : List Env} {L a e t dx : Addr} {m : Str → Option Value} {name : Str} {scope : Scope} {cd : Value} {news : Led}
theorem fault_K {prog : Program} {knd : Str} {r1 r2 r3 : Int} {t0 t1 t2 t3 : Tok} {Q : Value → Shared → Prop} (F : Fr h₀ L s.heap m) (X : (hd.heap_39 w.params).In h₀) (N : News h₀ L s.heap news) (hd : A.depth ≤ 900) (hu : A.units ≤ 9000)
    (h : ∀ e t dx h' tk, Fr h₀ L h' m → News h₀ L h' ((e, excO t dx) :: news) → Q (.ref e) { s with heap := h', toks := tk }) :
    wpAny (model prog w) A (call (.ref 51) [.str knd t0, .int r1 t1, .int r2 t2, .int r3 t3]) Q E s := by
  obtain ⟨hp, g, d, tk, os⟩ := s
  refine make_fault (X.keeps F.keep) hd hu ⟨fun e t dx h' tk nw D hm => ?_⟩
  have up : ∀ b o, hp.get? b = some o → h'.get? b = some o := fun b o q => D.keep b o q (by simp [away])
  have F' := F.keeps up
  refine h e t dx h' tk F' fun p hp' => ?_
  rcases List.mem_cons.mp hp' with rfl | hp'
  · have z := D.nw _ hm
    refine ⟨z.1, fun q => ?_, ?_⟩
    · obtain ⟨oL, _, _, eL, _⟩ := F.ns
      have := z.2
      rw [show (e, excO t dx).1 = L from q] at this
      rw [eL] at this; cases this
    · cases q : h₀.get? e with
      | none => rfl
      | some o => have := z.2; rw [F.keep _ _ q] at this; cases this
  · exact N.grown up p hp'
theorem leave_own {M : Model} {Q : Unit → Shared → Prop} (K : Below A base outer g) (F : Fr g L s'.heap m) (N : News g L s'.heap ((e, excO t dx) :: news))
    (hQ : ∀ h', RaisedSN base g outer e (.ref 51) [] h' → g.UpToSlots h' → Q () { s' with heap := h' }) (hk : scope.kind = .function := by rfl) :
    wpAny M (A.deeper (envOf name scope L a cd)) (leaving (envOf name scope L a cd) (.ref e)) Q E s' := by
  have K' := K.push (name := name) (a := a) (cd := cd) F hk
  have hin : ∀ env ∈ (envOf name scope L a cd :: outer), ∀ b, env.frame = some b → b ∈ e :: (envOf name scope L a cd :: outer).filterMap (·.frame) := fun env he b hb => .tail _ (List.mem_filterMap.mpr ⟨env, he, hb⟩)
  have z := N _ (.head _)
  have eb : base.get? e = none := fresh_of_stays K.stays z.2.2
  have st : base.StaysIn (hideAll s'.heap (e :: (envOf name scope L a cd :: outer).filterMap (·.frame))) := fun b o q => hideAll_get _ (K'.stays b o q) fun hm => by
    rcases List.mem_cons.mp hm with rfl | hm
    · rw [eb] at q; cases q
    · rw [(K'.frames.mem hm).1] at q; cases q
  have sg : ∀ b o, g.get? b = some o → b ∉ outer.filterMap (·.frame) → (hideAll s'.heap (e :: (envOf name scope L a cd :: outer).filterMap (·.frame))).get? b = some o := fun b o q nm => hideAll_get _ (F.keep b o q) fun hm => by
    rcases List.mem_cons.mp hm with y | hm
    · rw [y, z.2.2] at q; cases q
    · rcases kts_mem hm with y | y
      · rw [y, kts_self F] at q; cases q
      · exact nm y
  refine wpAny_leaving_firstW (a0 := .ref t) K'.stack (funFrames_hide K'.frames hin) rfl z.1 (fun b o q => of_hideAll _ q) (hideAll_none _ (.head _)) rfl rfl rfl fun h' hL => ?_
  obtain ⟨k1, ⟨_, _, k2⟩, k3, k4⟩ := hL
  exact hQ h' ⟨_, .ref t, st, sg, (fun _ h => nomatch h), k1, hideAll_none _ (.head _), k2, k3⟩ ((Heap.UpToSlots.of_keeps F.keep).trans k4)
theorem cls_is {h : Heap} (X : (hd.heap_39 w.params).In h) : ktsIn (hd.heap_39 w.params) 51 "BaseException" = true := by
  kernel_rfl
def RaisePost (w : World) (E : Value → Shared → Prop) (v : Value) (s₁ : Shared) : Prop := ∃ e t dx, v = .ref e ∧ (hd.heap_39 w.params).In s₁.heap ∧ s₁.heap.get? e = some (excO t dx) ∧ E (.ref e) s₁
theorem raise_own {prog : Program} {x : PySem.Expr} {pos : Pos} {env : Env} {Q : Flow → Shared → Prop} (hh : A.handled = none)
    (h : wpAny (model prog w) A (eval x env) (RaisePost w E) E s) :
    wpAny (model prog w) A (exec (.Raise (some x) none pos) env) Q E s := by
  rw [arm_exec_Raise]
  refine wpAny_bind (wpAny_standAt ?_)
  simp only [evalOpt, Option.map]
  unfold raiseStmt
  refine wpAny_bind (wpAny_bind (wpAny_mono h (fun v s₁ h₁ => wpAny_bind (wpAny_standAt (wpAny_pure ?_))) fun _ _ x => x))
  obtain ⟨e, t, dx, rfl, X, he, hE⟩ := h₁
  obtain ⟨nm, q', N, bs, bm, hdct, sn, sub, ab, col, dd, k0, k1, k2, k3, k5, newId, hC, hbase, hbT⟩ := kts_cls X (cls_is X)
  have hcB : (Value.ref 51 :: bm).contains (.type "BaseException") = true := by rw [List.contains_cons, hbase, Bool.or_true]
  obtain ⟨hp, g, d, tk, os⟩ := s₁
  repeat (first | with_reducible refine wpAny_loadPart_at he ?_ | with_reducible refine wpAny_loadPart_at hC ?_ | (with_reducible refine wpAny_isSubtype_exc hC ?_; rw [hcB]) | wp_step)
  exact wpAny_raiseNew_none hh hE
end
section
variable {prog : Program} {w : World} {A₀ : Around} {E : Value → Shared → Prop} {s' : Shared} {base g g₀ G : Heap} {outer : List Env} {L a e : Addr} {m : Str → Option Value} {name : Str} {scope : Scope} {cd : Value}
  {b₀ : Stmt} {suite : List Stmt} {pos np : Pos} {rest : List ExceptHandler} {Q : Flow → Shared → Prop} {news : Led} {KF : Frag} {C : Addr}
  {p : Program} {loose : List Str} {mean : ExcName → Option Value} {mg mb : Str → Option Value} {x : Str}
theorem caught_own (R : RaisedSN base G (envOf name scope L a cd :: outer) e (.ref C) news s'.heap) (F : Fr g L G m) (K : Below A₀ base outer g) (hsm : G.UpToSlots s'.heap) (XB : KF.In base) (TB : Top p loose mean mg mb base)
    (D : KtsDicts (outer.filterMap (·.frame)) g) (T0 : KtsTurn (outer.filterMap (·.frame)) g₀ g)
    (ex : nsIn KF mainGlobals x = some (some (.ref C))) (q : ktsIn KF C "BaseException" = true)
    (k : ∀ h' g', KtsTurn (outer.filterMap (·.frame)) g₀ g' → Fr g' L h' m → News g' L h' news → Below A₀ base outer g' → KF.In g' → Top p loose mean mg mb g' → KtsDicts (outer.filterMap (·.frame)) g' →
      wpAny (model prog w) ((A₀.deeper (envOf name scope L a cd)).mark (some (.ref e))) (execs (b₀ :: suite) (envOf name scope L a cd)) Q E { s' with heap := h' })
    (hk : scope.kind = .function := by rfl) (hx : (envOf name scope L a cd).kindOf x = some .globalImplicit := by rfl) (hd : (x == ("__debug__" : Str)) = false := by decide)
    (hE : PassesOwnAt (model prog w) ((A₀.deeper (envOf name scope L a cd)).mark (some (.ref e))) (A₀.deeper (envOf name scope L a cd)) (envOf name scope L a cd) E := by passes_own) :
    wpAny (model prog w) (A₀.deeper (envOf name scope L a cd)) (noteFrame (.ref e) (envOf name scope L a cd))
      (fun _ s₂ => wpAny (model prog w) (A₀.deeper (envOf name scope L a cd)) (setFlight (.ref e) none) (fun _ s₃ =>
        wpAny (model prog w) (A₀.deeper (envOf name scope L a cd)) (handleBy (.ref e) (envOf name scope L a cd) (.ExceptHandler (some (.Name x np)) none (b₀ :: suite) pos :: rest)) Q E s₃) E s₂) E s' := by
  obtain ⟨B, a0, hB, hBG, hl, hfl⟩ := R
  have hL : B.get? L = none := by
    obtain ⟨_, ⟨L', _, hf, hn', _⟩, _⟩ := hfl.2.2.1
    obtain rfl : L = L' := Option.some.inj hf
    exact hn'
  refine wpAny_looks_onW (Around.frames_deeper K.stack) rfl hfl fun h₄ hheld₄ hsm₄ => ?_
  refine wpAny_landsW hheld₄ fun h₅ hheld hsm₅' => ?_
  have hsm₅ := hsm₄.trans hsm₅'
  obtain ⟨g₅, T₅, F₅, K₅⟩ := kts_ground K F hBG hheld.1 (hsm.trans hsm₅)
  have X₅ : KF.In g₅ := XB.keeps K₅.stays
  have P₅ : TopRead p loose mg mb g₅ := topRead_of (TB.keeps K₅.stays)
  obtain ⟨ob, hob, hobc⟩ := hheld.there
  obtain ⟨nm, q', N, bs, bm, hdct, sn, sub, ab, col, dd, k0, k1, k2, k3, k5, newId, hC, hbase, hbT⟩ := kts_cls X₅ q
  have hC₅ := F₅.keep _ _ hC
  refine wpAny_handleBy_cons (codeAny_handlers_test (name_K F₅ X₅ P₅ ex ?_ hk hx hd)) (by intro q; cases q)
  refine wpAny_excMatches_sub_self hC₅ hob hobc hbase (codeAny_handlers_suite ?_)
  refine lands_againW hheld fun h₆ hfl₆ hsm₆ => ?_
  obtain ⟨g₆, T₆, F₆, K₆⟩ := kts_ground K F hBG hfl₆.1 ((hsm.trans hsm₅).trans hsm₆)
  have Nl : News g₆ L h₆ news := fun q hq => ⟨hfl₆.1 _ _ (hl q hq).1, (fun z => by have := (hl q hq).1; rw [z, hL] at this; cases this), T₆.none_ _ (kts_none F.keep (hl q hq).2.1)⟩
  have X₆ : KF.In g₆ := XB.keeps K₆.stays
  have P₆ : Top p loose mean mg mb g₆ := TB.keeps K₆.stays
  have D₆ : KtsDicts (outer.filterMap (·.frame)) g₆ := D.turn T₆
  exact wpAny_passesOwnAt hE (k h₆ g₆ (T0.trans T₆) F₆ Nl K₆ X₆ P₆ D₆)
end
end
section
theorem fresh_BD : True := by
  w_top off
  trivial
local macro_rules | `(tactic| walk_at "call ref") => `(tactic| (k_here; (with_reducible show wpAny _ _ (call (Value.ref _) [Value.str _ _, Value.int _ _, Value.int _ _, Value.int _ _]) _ _ _); k_dflt (refine' fault_K ?k1 ?k2 ?k3 ?k7 ?k8 ?_; (case k1 => k_asm); (case k2 => k_asm); (case k3 => k_asm); (case k7 => walk_at "my_room"); (case k8 => walk_at "my_units"); k_whole; intro e9 u9 v9 h9 tk9 F9 N9; (try dsimp only); (try k_sweep))))
local macro_rules | `(tactic| walk_at "my_room") => `(tactic| ((try simp only [depth_under_make, depth_under_kw, depth_in1, depth_deeper, depth_caller] at *); (try dsimp only [ktrTop] at *); (simp only [recursionLimit] at *); omega))
local macro_rules | `(tactic| walk_at "my_units") => `(tactic| (have hcL9 := cLine_is; (try simp only [units_in1, units_deeper, Around.mark_units, units_caller] at *); (try dsimp only [ktrTop] at *); omega))
local macro_rules | `(tactic| walk_at "call ref") => `(tactic| (k_here; (with_reducible show wpAny _ _ (call (Value.ref _) [Value.ref _, Value.int _ _]) _ _ _); k_dflt (refine' calls_use ?k1 ?k2 ?k3 ?k4 ?k5 ?k6 (c_place ?K ?h0) ?k7 ?k8 ?_; (case k1 => k_asm); (case k2 => k_asm); (case k3 => k_asm); (case k4 => k_asm); (case k5 => k_asm); (case k6 => first | exact rfl | assumption); (case K => assumption); (case h0 => omega); (case k7 => ktr_room); (case k8 => ktr_units); k_whole; intro r9 h9 tk9 n9 F9 N9 e9; (obtain ⟨a9, r19, r29, t19, t29, e9, e8, e7⟩ := e9); subst e9; subst e7; (try dsimp only); (try k_sweep))))
section
variable {w : World} {x d l : Addr} {h1 h2 h3 : Int} {k1 k2 k3 t0 t : Tok} {vs : List Value} {ln : Nat} {rest : Led} {cs : List Int} {p p' : Int}
set_option maxRecDepth 100000 in
set_option maxHeartbeats 4000000 in
theorem c_fault {q i : Int} {knd : Str} {tk ti : Tok} (K : Tk x d l vs cs rest) (h0 : 0 ≤ i) :
    CallsTo w 120 169 [.ref x, .str knd tk, .int i ti] (led x d l h1 h2 h3 k1 k2 k3 t0 vs ln rest q t) (fun r n => ∃ e u v, r = .ref e ∧ n = (e, excO u v) :: led x d l h1 h2 h3 k1 k2 k3 t0 vs ln rest q t) False := by
  unfold CallsTo; k_fill
  intro dp un gd cn cS a ccd cl outer A₀ base h₀ L m s pr loose mean mg mb Q E B F X N T hk hd hu ret _
  have K0 := K
  obtain ⟨hi, hcs, hlen, hx, hl, hr⟩ := K0
  refine wpAny_call ?_
  k_dflt ktr_enter
  walk_at "my_steps"
  rename News _ _ _ _ => N2
  rename Fr _ _ _ _ => F2
  exact ret _ _ _ _ F2 (cb_drop N2 (drop2 (drop1 (fun _ h => h)))) ⟨_, _, _, rfl, rfl⟩
end
end
section
local macro_rules | `(tactic| walk_at "pad0") => `(tactic| skip)
theorem fresh_BE : True := by
  w_top off
  trivial
local macro_rules | `(tactic| walk_at "call ref") => `(tactic| (k_here; (with_reducible show wpAny _ _ (call (Value.ref _) [Value.ref _, Value.int _ _]) _ _ _); k_dflt (refine' calls_C ?k1 ?k2 ?k3 ?k4 ?k5 ?k6 (CharTo.out (by assumption) _ _ _) ?k7 ?k8 ?_; (case k1 => k_asm); (case k2 => k_asm); (case k3 => k_asm); (case k4 => k_asm); (case k5 => k_asm); (case k6 => first | exact rfl | assumption); (case k7 => ktr_room); (case k8 => ktr_units); k_whole; intro t9 u9 h9 tk9 F9 N9; (try dsimp only); (try k_sweep))))
local macro_rules | `(tactic| walk_at "call ref") => `(tactic| (k_here; (with_reducible show wpAny _ _ (call (Value.ref _) [Value.ref _, Value.int _ _, Value.int _ _]) _ _ _); k_dflt (refine' calls_C ?k1 ?k2 ?k3 ?k4 ?k5 ?k6 (c_digits ?K ?h0 (by assumption)) ?k7 ?k8 ?_; (case k1 => k_asm); (case k2 => k_asm); (case k3 => k_asm); (case k4 => k_asm); (case k5 => k_asm); (case k6 => first | exact rfl | assumption); (case K => assumption); (case h0 => omega); (case k7 => ktr_room); (case k8 => ktr_units); k_whole; intro t9 u9 h9 tk9 F9 N9; (try dsimp only); (try k_sweep))))
local macro_rules | `(tactic| walk_at "call ref") => `(tactic| (k_here; (with_reducible show wpAny _ _ (call (Value.ref _) [Value.ref _, Value.str _ _, Value.int _ _]) _ _ _); k_dflt (refine' calls_use ?k1 ?k2 ?k3 ?k4 ?k5 ?k6 (c_fault ?K ?h0) ?k7 ?k8 ?_; (case k1 => k_asm); (case k2 => k_asm); (case k3 => k_asm); (case k4 => k_asm); (case k5 => k_asm); (case k6 => first | exact rfl | assumption); (case K => assumption); (case h0 => omega); (case k7 => ktr_room); (case k8 => ktr_units); k_whole; intro r9 h9 tk9 n9 F9 N9 e9; (obtain ⟨a9, u9, v9, e9, e7⟩ := e9); subst e9; subst e7; (try dsimp only); (try k_sweep))))
local macro_rules | `(tactic| walk_at "exec Raise some none") => `(tactic| (k_here; k_dflt (refine raise_own (by rfl) ?_)))
section
variable {w : World} {x d l : Addr} {h1 h2 h3 : Int} {k1 k2 k3 t0 t : Tok} {vs : List Value} {ln : Nat} {rest : Led} {cs : List Int} {p p' : Int}
set_option maxRecDepth 100000 in
set_option maxHeartbeats 4000000 in
theorem c_num_bad {q : Int} {tp : Tok} {ds ds2 : List Int} (K : Tk x d l vs cs rest) (h0 : 0 ≤ p) (e1 : codeAt cs p ≠ 48)
    (D : Digs cs 10 p ds) (e3 : codeAt cs (p + ds.length) = 46) (e4 : 48 ≤ codeAt cs (p + ds.length + 1) ∧ codeAt cs (p + ds.length + 1) ≤ 57) (D2 : Digs cs 10 (p + ds.length + 1) ds2) :
    CallsTo w 130 232 [.ref x, .int p tp] (led x d l h1 h2 h3 k1 k2 k3 t0 vs ln rest q t) (fun _ _ => False) True := by
  unfold CallsTo; k_fill
  intro dp un gd cn cS a ccd cl outer A₀ base h₀ L m s pr loose mean mg mb Q E B F X N T hk hd hu _ exc
  have K0 := K
  obtain ⟨hi, hcs, hlen, hx, hl, hr⟩ := K0
  refine wpAny_call ?_
  k_dflt ktr_enter
  walk_at "my_steps"
  rename News _ _ _ _ => N2
  rename Fr _ _ _ _ => F2
  refine ⟨_, _, _, rfl, Frag.In.keeps (by assumption) F2.keep, (N2 _ (.head _)).1, ?_⟩
  k_unfold
  refine leave_own (by assumption) F2 N2 ?_
  intro h' R U
  exact exc trivial _ _ _ _ (by assumption) R U
end
end
section
local macro_rules | `(tactic| walk_at "pad0") => `(tactic| skip)
theorem fresh_BF : True := by
  w_top off
  trivial
local macro_rules | `(tactic| walk_at "call ref") => `(tactic| (k_here; (with_reducible show wpAny _ _ (call (Value.ref _) [Value.int _ _]) _ _ _); k_dflt (refine' calls_A ?k1 ?k2 ?k3 ?k4 ?k5 ?k6 c_is_symbol ?k7 ?k8 ?_; (case k1 => k_asm); (case k2 => k_asm); (case k3 => k_asm); (case k4 => k_asm); (case k5 => k_asm); (case k6 => first | exact rfl | assumption); (case k7 => ktr_room); (case k8 => ktr_units); k_whole; intro h9 tk9 F9 N9; (try dsimp only); (try k_sweep))))
local macro_rules | `(tactic| walk_at "call ref") => `(tactic| (k_here; (with_reducible show wpAny _ _ (call (Value.ref _) [Value.ref _]) _ _ _); k_dflt (refine' calls_B ?k1 ?k2 ?k3 ?k4 ?k5 ?k6 (c_codes_text ?ml ?hi ?hc ?hn) ?k7 ?k8 ?_; (case k1 => k_asm); (case k2 => k_asm); (case k3 => k_asm); (case k4 => k_asm); (case k5 => k_asm); (case k6 => first | exact rfl | assumption); (case ml => k_mem); (case hi => assumption); (case hc => exact codes_sub (by assumption)); (case hn => omega); (case k7 => ktr_room); (case k8 => ktr_units); k_whole; intro t9 h9 tk9 F9 N9; (try dsimp only); (try k_sweep))))
structure TextTo (w : World) (f : Addr) (x d l : Addr) (h1 h2 h3 : Int) (k1 k2 k3 t0 : Tok) (vs : List Value) (ln : Nat) (rest : Led) (p p' : Int) (T : Str) : Prop where
  out : ∀ (q : Int) (t tp : Tok), CallsTo w 4 f [.ref x, .int p tp] (led x d l h1 h2 h3 k1 k2 k3 t0 vs ln rest q t) (fun r n => (∃ t', r = .str T t') ∧ ∃ t', n = led x d l h1 h2 h3 k1 k2 k3 t0 vs ln rest p' t') False
structure TokTo (w : World) (f : Addr) (x d l : Addr) (h1 h2 h3 : Int) (k1 k2 k3 t0 : Tok) (vs : List Value) (ln : Nat) (rest : Led) (p p' : Int) (knd : String) (val : Tok → Value) : Prop where
  out : ∀ (q : Int) (t tp : Tok), CallsTo w 8 f [.ref x, .int p tp] (led x d l h1 h2 h3 k1 k2 k3 t0 vs ln rest q t) (TokPost d (led x d l h1 h2 h3 k1 k2 k3 t0 vs ln rest) knd val p p') False
local macro_rules | `(tactic| walk_at "call ref") => `(tactic| (k_here; (with_reducible show wpAny _ _ (call (Value.ref _) [Value.ref _, Value.int _ _]) _ _ _); k_dflt ((first | refine' calls_C ?k1 ?k2 ?k3 ?k4 ?k5 ?k6 (TextTo.out (by assumption) _ _ _) ?k7 ?k8 ?_); (case k1 => k_asm); (case k2 => k_asm); (case k3 => k_asm); (case k4 => k_asm); (case k5 => k_asm); (case k6 => first | exact rfl | assumption); (case k7 => ktr_room); (case k8 => ktr_units); k_whole; intro t9 u9 h9 tk9 F9 N9; (try dsimp only); (try k_sweep))))
local macro_rules | `(tactic| walk_at "call ref") => `(tactic| (k_here; (with_reducible show wpAny _ _ (call (Value.ref _) [Value.ref _, Value.int _ _]) _ _ _); k_dflt ((first | refine' calls_use ?k1 ?k2 ?k3 ?k4 ?k5 ?k6 (TokTo.out (by assumption) _ _ _) ?k7 ?k8 ?_); (case k1 => k_asm); (case k2 => k_asm); (case k3 => k_asm); (case k4 => k_asm); (case k5 => k_asm); (case k6 => first | exact rfl | assumption); (case k7 => ktr_room); (case k8 => ktr_units); k_whole; intro r9 h9 tk9 n9 F9 N9 e9; (obtain ⟨a9, ta9, tv9, tb9, u9, e9, e8, e7⟩ := e9); subst e9; subst e7; (try dsimp only); (try k_sweep))))
local macro_rules | `(tactic| walk_at "call ref") => `(tactic| (k_here; (with_reducible show wpAny _ _ (call (Value.ref _) _) _ _ _); k_dflt ((first | refine' calls_D ?k1 ?k2 ?k3 ?k4 ?k5 ?k6 (c_skip_layout ?K ?h0 (by assumption)) ?k7 ?k8 ?_); (case k1 => k_asm); (case k2 => k_asm); (case k3 => k_asm); (case k4 => k_asm); (case k5 => k_asm); (case k6 => first | exact rfl | assumption); (case K => assumption); (case h0 => omega); (case k7 => ktr_room); (case k8 => ktr_units); k_whole; intro u9 h9 tk9 F9 N9; (try dsimp only); (try k_sweep))))
section
variable {w : World} {x d l : Addr} {h1 h2 h3 : Int} {k1 k2 k3 t0 t : Tok} {vs : List Value} {ln : Nat} {rest : Led} {cs : List Int} {p p' : Int}
set_option maxRecDepth 100000 in
set_option maxHeartbeats 4000000 in
theorem c_next_small {q : Int} {n : Nat} (K : Tk x d l vs cs rest) (h0 : 0 ≤ p) (hq : 0 ≤ q) (R : Lay cs n p q) (hc : 97 ≤ codeAt cs q ∧ codeAt cs q ≤ 122) {T : Str} (C : TextTo w 211 x d l h1 h2 h3 k1 k2 k3 t0 vs ln rest q p' T) :
    CallsTo w 12 176 [.ref x] (led x d l h1 h2 h3 k1 k2 k3 t0 vs ln rest p t) (TokPost d (led x d l h1 h2 h3 k1 k2 k3 t0 vs ln rest) "name" (fun t => .str T t) q p') False := by
  unfold CallsTo; k_fill
  intro dp un gd cn cS a ccd cl outer A₀ base h₀ L m s pr loose mean mg mb Q E B F X N T hk hd hu ret _
  have K0 := K
  obtain ⟨hi, hcs, hlen, hx, hl, hr⟩ := K0
  have hlt := (codeAt_lt hcs hq)
  have hin : ¬ (cs.length : Int) ≤ q := by omega
  refine wpAny_call ?_
  k_dflt ktr_enter
  walk_at "my_steps"
  rename News _ _ _ _ => N2
  rename Fr _ _ _ _ => F2
  rename (_ < _ ∧ _) => hlt
  exact ret _ _ _ _ F2 N2 ⟨_, _, _, _, _, rfl, Nat.ne_of_gt (by omega), rfl⟩
set_option maxRecDepth 100000 in
set_option maxHeartbeats 4000000 in
theorem c_next_cap {q : Int} {n : Nat} (K : Tk x d l vs cs rest) (h0 : 0 ≤ p) (hq : 0 ≤ q) (R : Lay cs n p q) (hc : 65 ≤ codeAt cs q ∧ codeAt cs q ≤ 90) {T : Str} (C : TextTo w 211 x d l h1 h2 h3 k1 k2 k3 t0 vs ln rest q p' T) :
    CallsTo w 12 176 [.ref x] (led x d l h1 h2 h3 k1 k2 k3 t0 vs ln rest p t) (TokPost d (led x d l h1 h2 h3 k1 k2 k3 t0 vs ln rest) "var" (fun t => .str T t) q p') False := by
  unfold CallsTo; k_fill
  intro dp un gd cn cS a ccd cl outer A₀ base h₀ L m s pr loose mean mg mb Q E B F X N T hk hd hu ret _
  have K0 := K
  obtain ⟨hi, hcs, hlen, hx, hl, hr⟩ := K0
  have hlt := (codeAt_lt hcs hq)
  have hin : ¬ (cs.length : Int) ≤ q := by omega
  refine wpAny_call ?_
  k_dflt ktr_enter
  walk_at "my_steps"
  rename News _ _ _ _ => N2
  rename Fr _ _ _ _ => F2
  rename (_ < _ ∧ _) => hlt
  exact ret _ _ _ _ F2 N2 ⟨_, _, _, _, _, rfl, Nat.ne_of_gt (by omega), rfl⟩
set_option maxRecDepth 100000 in
set_option maxHeartbeats 4000000 in
theorem c_next_num {q : Int} {n : Nat} (K : Tk x d l vs cs rest) (h0 : 0 ≤ p) (hq : 0 ≤ q) (R : Lay cs n p q) (hc : 48 ≤ codeAt cs q ∧ codeAt cs q ≤ 57) {v : Int} (C : TokTo w 232 x d l h1 h2 h3 k1 k2 k3 t0 vs ln rest q p' "int" (fun t => .int v t)) :
    CallsTo w 12 176 [.ref x] (led x d l h1 h2 h3 k1 k2 k3 t0 vs ln rest p t) (TokPost d (led x d l h1 h2 h3 k1 k2 k3 t0 vs ln rest) "int" (fun t => .int v t) q p') False := by
  unfold CallsTo; k_fill
  intro dp un gd cn cS a ccd cl outer A₀ base h₀ L m s pr loose mean mg mb Q E B F X N T hk hd hu ret _
  have K0 := K
  obtain ⟨hi, hcs, hlen, hx, hl, hr⟩ := K0
  have hlt := (codeAt_lt hcs hq)
  have hin : ¬ (cs.length : Int) ≤ q := by omega
  refine wpAny_call ?_
  k_dflt ktr_enter
  walk_at "my_steps"
  rename News _ _ _ _ => N2
  rename Fr _ _ _ _ => F2
  exact ret _ _ _ _ F2 N2 ⟨_, _, _, _, _, rfl, by assumption, rfl⟩
set_option maxRecDepth 100000 in
set_option maxHeartbeats 4000000 in
theorem c_next_sym {q : Int} {n : Nat} (K : Tk x d l vs cs rest) (h0 : 0 ≤ p) (hq : 0 ≤ q) (R : Lay cs n p q) (hc : isSymbol (codeAt cs q) = true) (hs : codeAt cs q = 43 ∨ codeAt cs q = 45) {T : Str} (C : TokTo w 218 x d l h1 h2 h3 k1 k2 k3 t0 vs ln rest q p' "name" (fun t => .str T t)) :
    CallsTo w 12 176 [.ref x] (led x d l h1 h2 h3 k1 k2 k3 t0 vs ln rest p t) (TokPost d (led x d l h1 h2 h3 k1 k2 k3 t0 vs ln rest) "name" (fun t => .str T t) q p') False := by
  unfold CallsTo; k_fill
  intro dp un gd cn cS a ccd cl outer A₀ base h₀ L m s pr loose mean mg mb Q E B F X N T hk hd hu ret _
  have K0 := K
  obtain ⟨hi, hcs, hlen, hx, hl, hr⟩ := K0
  have hlt := (codeAt_lt hcs hq)
  have hin : ¬ (cs.length : Int) ≤ q := by omega
  refine wpAny_call ?_
  k_dflt ktr_enter
  walk_at "my_steps"
  rename News _ _ _ _ => N2
  rename Fr _ _ _ _ => F2
  exact ret _ _ _ _ F2 N2 ⟨_, _, _, _, _, rfl, by assumption, rfl⟩
end
end
section
theorem fresh_BG : True := by
  w_top off
  trivial
structure TokBad (w : World) (f : Addr) (x d l : Addr) (h1 h2 h3 : Int) (k1 k2 k3 t0 : Tok) (vs : List Value) (ln : Nat) (rest : Led) (p : Int) : Prop where
  out : ∀ (q : Int) (t tp : Tok), CallsTo w 130 f [.ref x, .int p tp] (led x d l h1 h2 h3 k1 k2 k3 t0 vs ln rest q t) (fun _ _ => False) True
local macro_rules | `(tactic| walk_at "call ref") => `(tactic| (k_here; (with_reducible show wpAny _ _ (call (Value.ref _) [Value.ref _, Value.int _ _]) _ _ _); k_dflt ((first | refine' calls_C ?k1 ?k2 ?k3 ?k4 ?k5 ?k6 (TextTo.out (by assumption) _ _ _) ?k7 ?k8 ?_); (case k1 => k_asm); (case k2 => k_asm); (case k3 => k_asm); (case k4 => k_asm); (case k5 => k_asm); (case k6 => first | exact rfl | assumption); (case k7 => ktr_room); (case k8 => ktr_units); k_whole; intro t9 u9 h9 tk9 F9 N9; (try dsimp only); (try k_sweep))))
local macro_rules | `(tactic| walk_at "call ref") => `(tactic| (k_here; (with_reducible show wpAny _ _ (call (Value.ref _) [Value.ref _, Value.int _ _]) _ _ _); k_dflt ((first | refine' calls_use ?k1 ?k2 ?k3 ?k4 ?k5 ?k6 (TokTo.out (by assumption) _ _ _) ?k7 ?k8 ?_); (case k1 => k_asm); (case k2 => k_asm); (case k3 => k_asm); (case k4 => k_asm); (case k5 => k_asm); (case k6 => first | exact rfl | assumption); (case k7 => ktr_room); (case k8 => ktr_units); k_whole; intro r9 h9 tk9 n9 F9 N9 e9; (obtain ⟨a9, ta9, tv9, tb9, u9, e9, e8, e7⟩ := e9); subst e9; subst e7; (try dsimp only); (try k_sweep))))
local macro_rules | `(tactic| walk_at "call ref") => `(tactic| (k_here; (with_reducible show wpAny _ _ (call (Value.ref _) _) _ _ _); k_dflt ((first | refine' calls_D ?k1 ?k2 ?k3 ?k4 ?k5 ?k6 (c_skip_layout ?K ?h0 (by assumption)) ?k7 ?k8 ?_); (case k1 => k_asm); (case k2 => k_asm); (case k3 => k_asm); (case k4 => k_asm); (case k5 => k_asm); (case k6 => first | exact rfl | assumption); (case K => assumption); (case h0 => omega); (case k7 => ktr_room); (case k8 => ktr_units); k_whole; intro u9 h9 tk9 F9 N9; (try dsimp only); (try k_sweep))))
local macro_rules | `(tactic| walk_at "call ref") => `(tactic| (k_here; (with_reducible show wpAny _ _ (call (Value.ref _) [Value.ref _, Value.int _ _]) _ _ _); k_dflt ((first | refine' calls_useX ?k1 ?k2 ?k3 ?k4 ?k5 ?k6 (TokBad.out (by assumption) _ _ _) ?k7 ?k8 ?_); (case k1 => k_asm); (case k2 => k_asm); (case k3 => k_asm); (case k4 => k_asm); (case k5 => k_asm); (case k6 => first | exact rfl | assumption); (case k7 => ktr_room); (case k8 => ktr_units); k_whole; intro e9 g9 h9 tk9 F9 R9 U9)))
local macro_rules | `(tactic| walk_at "leaving ref") => `(tactic| (k_here; k_dflt (refine' leave_onSN ?k1 ?k2 ?k3 ?k4 ?_; (case k3 => assumption); (case k1 => assumption); (case k4 => assumption); (case k2 => assumption); k_whole; intro h' S' R' U'; (try dsimp only at S' R' U' ⊢))))
section
variable {w : World} {x d l : Addr} {h1 h2 h3 : Int} {k1 k2 k3 t0 t : Tok} {vs : List Value} {ln : Nat} {rest : Led} {cs : List Int} {p p' : Int}
set_option maxRecDepth 100000 in
set_option maxHeartbeats 4000000 in
theorem c_next_bad {q : Int} {n : Nat} (K : Tk x d l vs cs rest) (h0 : 0 ≤ p) (hq : 0 ≤ q) (R : Lay cs n p q) (hc : 48 ≤ codeAt cs q ∧ codeAt cs q ≤ 57) (C : TokBad w 232 x d l h1 h2 h3 k1 k2 k3 t0 vs ln rest q) :
    CallsTo w 135 176 [.ref x] (led x d l h1 h2 h3 k1 k2 k3 t0 vs ln rest p t) (fun _ _ => False) True := by
  unfold CallsTo; k_fill
  intro dp un gd cn cS a ccd cl outer A₀ base h₀ L m s pr loose mean mg mb Q E B F X N T hk hd hu _ exc
  have K0 := K
  obtain ⟨hi, hcs, hlen, hx, hl, hr⟩ := K0
  have hlt := (codeAt_lt hcs hq)
  have hin : ¬ (cs.length : Int) ≤ q := by omega
  refine wpAny_call ?_
  k_dflt ktr_enter
  walk_at "my_steps"
  rename RaisedSN _ _ _ _ _ _ _ => R2
  rename Heap.UpToSlots _ _ => U2
  exact exc trivial _ _ _ _ (by assumption) R2 U2
end
end
section
theorem fresh_BH : True := by
  w_top off
  trivial
def CallsTop (w : World) (k : Nat) (f : Addr) (args : List Value) (news : Led) (post : Value → Led → Prop) : Prop :=
  ∀ (dp un : Nat) (gd : Option (List Code)) (cn : Str) (cS : Scope) (a : Addr) (ccd : Value) (A₀ : Around) (base h₀ : Heap) (L : Addr) (m : Str → Option Value) (s : Shared)
    (pr : Program) (loose : List Str) (mean : ExcName → Option Value) (mg mb : Str → Option Value) (Q E : Value → Shared → Prop),
    Below A₀ base [] h₀ → Fr h₀ L s.heap m → (hd.heap_39 w.params).In h₀ → News h₀ L s.heap news → Top pr loose mean mg mb h₀ → (hd.heap_39 w.params).In base → Top pr loose mean mg mb base → cS.kind = .function → dp + k < recursionLimit → un + 8 * k < cLine →
    (∀ r h' tk' news', Fr h₀ L h' m → News h₀ L h' news' → post r news' → Q r { s with heap := h', toks := tk' }) →
    wpAny (model PySem.Challenge.rw_rr0020_01.row.prog w) (ktrTop dp un gd cn cS L a ccd [] []) (call (.ref f) args) Q E s
structure NextIs (w : World) (cs : List Int) (p q p' : Int) (knd : String) (val : Tok → Value) : Prop where
  out : ∀ {x d l : Addr} {h1 h2 h3 : Int} {k1 k2 k3 t0 t : Tok} {vs : List Value} {ln : Nat} {rest : Led}, Tk x d l vs cs rest →
    CallsTo w 12 176 [.ref x] (led x d l h1 h2 h3 k1 k2 k3 t0 vs ln rest p t) (TokPost d (led x d l h1 h2 h3 k1 k2 k3 t0 vs ln rest) knd val q p') False
structure NextBad (w : World) (cs : List Int) (p : Int) : Prop where
  out : ∀ {x d l : Addr} {h1 h2 h3 : Int} {k1 k2 k3 t0 t : Tok} {vs : List Value} {ln : Nat} {rest : Led}, Tk x d l vs cs rest →
    CallsTo w 135 176 [.ref x] (led x d l h1 h2 h3 k1 k2 k3 t0 vs ln rest p t) (fun _ _ => False) True
theorem allLt_ne {d : Addr} : ∀ {l : Led}, AllLt d l → ∀ q ∈ l, q.1 ≠ d
  | [], _, _, h => nomatch h
  | p :: r, x, q, h => by
    rcases List.mem_cons.mp h with e | e
    · rw [e]; exact Nat.ne_of_lt x.1
    · exact allLt_ne x.2 q e
theorem news_rot {h₀ h : Heap} {L : Addr} {a b c d : Addr × Obj} {r : Led} (N : News h₀ L h (a :: b :: c :: d :: r)) : News h₀ L h (b :: c :: d :: a :: r) := fun p hp => N p (by
  simp only [List.mem_cons] at hp ⊢
  rcases hp with h | h | h | h | h <;> simp [h])
local macro_rules | `(tactic| walk_at "call ref") => `(tactic| (k_here; (with_reducible show wpAny _ _ (call (Value.ref _) _) _ _ _); k_dflt (refine' calls_use ?k1 ?k2 ?k3 ?k4 ?k5 ?k6 (NextIs.out ?C ?K) ?k7 ?k8 ?_; (case k1 => k_asm); (case k2 => k_asm); (case k3 => k_asm); (case k4 => first | k_asm | exact news_rot (by k_asm)); (case k5 => k_asm); (case k6 => first | exact rfl | assumption); (case C => assumption); (case K => walk_at "my_tk"); (case k7 => ktr_room); (case k8 => ktr_units); k_whole; intro r9 h9 tk9 n9 F9 N9 e9; (obtain ⟨a9, ta9, tv9, tb9, u9, e9, e8, e7⟩ := e9); subst e9; subst e7; (try dsimp only); (try k_sweep))))
local macro_rules | `(tactic| walk_at "call ref") => `(tactic| (k_here; (with_reducible show wpAny _ _ (call (Value.ref _) _) _ _ _); k_dflt (refine' calls_useX ?k1 ?k2 ?k3 ?k4 ?k5 ?k6 (NextBad.out ?C ?K) ?k7 ?k8 ?_; (case k1 => k_asm); (case k2 => k_asm); (case k3 => k_asm); (case k4 => first | k_asm | exact news_rot (by k_asm)); (case k5 => k_asm); (case k6 => first | exact rfl | assumption); (case C => assumption); (case K => walk_at "my_tk"); (case k7 => ktr_room); (case k8 => ktr_units); k_whole; intro e9 g9 h9 tk9 F9 R9 U9)))
local macro_rules | `(tactic| walk_at "my_off") => `(tactic| first | assumption | exact allLt_ne (by assumption) | exact allLt_ne (And.right (by assumption)) | (refine List.forall_mem_cons.mpr ⟨by assumption, ?_⟩; walk_at "my_off"))
local macro_rules | `(tactic| walk_at "my_tk") => `(tactic| (refine ⟨by assumption, by assumption, by assumption, ?_, ?_, ?_⟩; (focus (refine neN ?_; omega)); (focus (refine neN ?_; omega)); walk_at "my_off"))
local macro_rules | `(tactic| walk_at "my_enter") => `(tactic| (refine' code_defS0 ?k1 ?k2 ?k3 ?k4 ?k5 ?kA ?k6 ?k7 ?k8 ?k9 ?kB ?_ ?cK ?c2 ?c3 ?c4 ?c5; (case kA => exact rfl); (case k2 => k_asm); (case k1 => k_asm); (case k3 => k_asm); (case k4 => k_asm); (case k5 => k_asm); (case k6 => k_is); (case k7 => k_is); (case k8 => ktr_room); (case k9 => first | exact binds_K (by k_in) rfl (by k_is) rfl rfl rfl | exact BindsTo.of_eq rfl); (case kB => exact locs rfl); (case cK => assumption); (case c2 => exact rfl); (case c3 => exact rfl); (case c4 => exact rfl); (case c5 => decide); k_whole; intro g' L' h' FG' F' N' B' X' T' D'; (try dsimp only); (try k_fold)))
local macro_rules | `(tactic| walk_at "noteFrame ref") => `(tactic| (k_here; k_dflt (refine' caught_own ?R ?F ?K ?U ?XB ?TB ?D ?T0 ?ex ?q ?_; (case R => assumption); (case F => assumption); (case K => assumption); (case U => assumption); (case XB => assumption); (case TB => assumption); (case D => assumption); (case T0 => exact KtsTurn.refl); (case ex => k_is); (case q => exact cls_is (by assumption)); k_whole; intro h' g' T9 F' N' B' X' P' D'; (try k_sweep))))
section
variable {w : World} {l : Addr} {vs : List Value} {ln : Nat} {rest : Led} {cs : List Int}
set_option maxRecDepth 100000 in
set_option maxHeartbeats 4000000 in
theorem rn_int {q p' v : Int} (hi : IntsAre vs cs) (hcs : ∀ c ∈ cs, 0 ≤ c ∧ c < 128) (hlen : cs.length < 1000000) (C : NextIs w cs 0 q p' "int" (fun t => .int v t)) :
    CallsTop w 160 281 [.ref l] ((l, lstO vs ln) :: rest) (fun r _ => (p' = cs.length ∧ ∃ t, r = .int (1 * v) t) ∨ (p' ≠ cs.length ∧ r = .none)) := by
  unfold CallsTop; k_fill
  intro dp un gd cn cS a ccd A₀ base h₀ L m s pr loose mean mg mb Q E B F X N T XB TB hk hd hu ret
  refine wpAny_call ?_
  k_dflt (walk_at "my_enter")
  walk_at "my_steps"
  all_goals first
    | exact ret _ _ _ _ (by assumption) (by assumption) (.inl ⟨by assumption, _, rfl⟩)
    | exact ret _ _ _ _ (by assumption) (by assumption) (.inr ⟨by assumption, rfl⟩)
    | exact ret _ _ _ _ (by assumption) (by assumption) rfl
set_option maxRecDepth 100000 in
set_option maxHeartbeats 4000000 in
theorem rn_name {q p' : Int} {T : Str} (hi : IntsAre vs cs) (hcs : ∀ c ∈ cs, 0 ≤ c ∧ c < 128) (hlen : cs.length < 1000000) (C : NextIs w cs 0 q p' "name" (fun t => .str T t)) (hT : T ≠ Str.ofString "-") :
    CallsTop w 160 281 [.ref l] ((l, lstO vs ln) :: rest) (fun r _ => r = .none) := by
  unfold CallsTop; k_fill
  intro dp un gd cn cS a ccd A₀ base h₀ L m s pr loose mean mg mb Q E B F X N T XB TB hk hd hu ret
  refine wpAny_call ?_
  k_dflt (walk_at "my_enter")
  walk_at "my_steps"
  all_goals first
    | exact ret _ _ _ _ (by assumption) (by assumption) (.inl ⟨by assumption, _, rfl⟩)
    | exact ret _ _ _ _ (by assumption) (by assumption) (.inr ⟨by assumption, rfl⟩)
    | exact ret _ _ _ _ (by assumption) (by assumption) rfl
set_option maxRecDepth 100000 in
set_option maxHeartbeats 4000000 in
theorem rn_var {q p' : Int} {T : Str} (hi : IntsAre vs cs) (hcs : ∀ c ∈ cs, 0 ≤ c ∧ c < 128) (hlen : cs.length < 1000000) (C : NextIs w cs 0 q p' "var" (fun t => .str T t)) :
    CallsTop w 160 281 [.ref l] ((l, lstO vs ln) :: rest) (fun r _ => r = .none) := by
  unfold CallsTop; k_fill
  intro dp un gd cn cS a ccd A₀ base h₀ L m s pr loose mean mg mb Q E B F X N T XB TB hk hd hu ret
  refine wpAny_call ?_
  k_dflt (walk_at "my_enter")
  walk_at "my_steps"
  all_goals first
    | exact ret _ _ _ _ (by assumption) (by assumption) (.inl ⟨by assumption, _, rfl⟩)
    | exact ret _ _ _ _ (by assumption) (by assumption) (.inr ⟨by assumption, rfl⟩)
    | exact ret _ _ _ _ (by assumption) (by assumption) rfl
set_option maxRecDepth 100000 in
set_option maxHeartbeats 4000000 in
theorem rn_bad  (hi : IntsAre vs cs) (hcs : ∀ c ∈ cs, 0 ≤ c ∧ c < 128) (hlen : cs.length < 1000000) (C : NextBad w cs 0) :
    CallsTop w 160 281 [.ref l] ((l, lstO vs ln) :: rest) (fun r _ => r = .none) := by
  unfold CallsTop; k_fill
  intro dp un gd cn cS a ccd A₀ base h₀ L m s pr loose mean mg mb Q E B F X N T XB TB hk hd hu ret
  refine wpAny_call ?_
  k_dflt (walk_at "my_enter")
  walk_at "my_steps"
  all_goals first
    | exact ret _ _ _ _ (by assumption) (by assumption) (.inl ⟨by assumption, _, rfl⟩)
    | exact ret _ _ _ _ (by assumption) (by assumption) (.inr ⟨by assumption, rfl⟩)
    | exact ret _ _ _ _ (by assumption) (by assumption) rfl
set_option maxRecDepth 100000 in
set_option maxHeartbeats 4000000 in
theorem rn_neg_int {q p1 p' v : Int} (hi : IntsAre vs cs) (hcs : ∀ c ∈ cs, 0 ≤ c ∧ c < 128) (hlen : cs.length < 1000000) (C1 : NextIs w cs 0 q p1 "name" (fun t => .str (Str.ofString "-") t)) (hp : p1 = q + 1) (C : NextIs w cs p1 p1 p' "int" (fun t => .int v t)) :
    CallsTop w 160 281 [.ref l] ((l, lstO vs ln) :: rest) (fun r _ => (p' = cs.length ∧ ∃ t, r = .int ((-1) * v) t) ∨ (p' ≠ cs.length ∧ r = .none)) := by
  unfold CallsTop; k_fill
  intro dp un gd cn cS a ccd A₀ base h₀ L m s pr loose mean mg mb Q E B F X N T XB TB hk hd hu ret
  refine wpAny_call ?_
  k_dflt (walk_at "my_enter")
  walk_at "my_steps"
  all_goals first
    | exact ret _ _ _ _ (by assumption) (by assumption) (.inl ⟨by assumption, _, rfl⟩)
    | exact ret _ _ _ _ (by assumption) (by assumption) (.inr ⟨by assumption, rfl⟩)
    | exact ret _ _ _ _ (by assumption) (by assumption) rfl
set_option maxRecDepth 100000 in
set_option maxHeartbeats 4000000 in
theorem rn_neg_gap {q q2 p1 p' : Int} {knd : String} {val : Tok → Value} (hi : IntsAre vs cs) (hcs : ∀ c ∈ cs, 0 ≤ c ∧ c < 128) (hlen : cs.length < 1000000) (C1 : NextIs w cs 0 q p1 "name" (fun t => .str (Str.ofString "-") t)) (hp : q2 ≠ q + 1) (C : NextIs w cs p1 q2 p' knd val) :
    CallsTop w 160 281 [.ref l] ((l, lstO vs ln) :: rest) (fun r _ => r = .none) := by
  unfold CallsTop; k_fill
  intro dp un gd cn cS a ccd A₀ base h₀ L m s pr loose mean mg mb Q E B F X N T XB TB hk hd hu ret
  refine wpAny_call ?_
  k_dflt (walk_at "my_enter")
  walk_at "my_steps"
  all_goals exact ret _ _ _ _ (by assumption) (by assumption) rfl
set_option maxRecDepth 100000 in
set_option maxHeartbeats 4000000 in
theorem rn_neg_name {q p1 p' : Int} {T : Str} (hi : IntsAre vs cs) (hcs : ∀ c ∈ cs, 0 ≤ c ∧ c < 128) (hlen : cs.length < 1000000) (C1 : NextIs w cs 0 q p1 "name" (fun t => .str (Str.ofString "-") t)) (hp : p1 = q + 1) (C : NextIs w cs p1 p1 p' "name" (fun t => .str T t)) :
    CallsTop w 160 281 [.ref l] ((l, lstO vs ln) :: rest) (fun r _ => r = .none) := by
  unfold CallsTop; k_fill
  intro dp un gd cn cS a ccd A₀ base h₀ L m s pr loose mean mg mb Q E B F X N T XB TB hk hd hu ret
  refine wpAny_call ?_
  k_dflt (walk_at "my_enter")
  walk_at "my_steps"
  all_goals first
    | exact ret _ _ _ _ (by assumption) (by assumption) (.inl ⟨by assumption, _, rfl⟩)
    | exact ret _ _ _ _ (by assumption) (by assumption) (.inr ⟨by assumption, rfl⟩)
    | exact ret _ _ _ _ (by assumption) (by assumption) rfl
set_option maxRecDepth 100000 in
set_option maxHeartbeats 4000000 in
theorem rn_neg_var {q p1 p' : Int} {T : Str} (hi : IntsAre vs cs) (hcs : ∀ c ∈ cs, 0 ≤ c ∧ c < 128) (hlen : cs.length < 1000000) (C1 : NextIs w cs 0 q p1 "name" (fun t => .str (Str.ofString "-") t)) (hp : p1 = q + 1) (C : NextIs w cs p1 p1 p' "var" (fun t => .str T t)) :
    CallsTop w 160 281 [.ref l] ((l, lstO vs ln) :: rest) (fun r _ => r = .none) := by
  unfold CallsTop; k_fill
  intro dp un gd cn cS a ccd A₀ base h₀ L m s pr loose mean mg mb Q E B F X N T XB TB hk hd hu ret
  refine wpAny_call ?_
  k_dflt (walk_at "my_enter")
  walk_at "my_steps"
  all_goals first
    | exact ret _ _ _ _ (by assumption) (by assumption) (.inl ⟨by assumption, _, rfl⟩)
    | exact ret _ _ _ _ (by assumption) (by assumption) (.inr ⟨by assumption, rfl⟩)
    | exact ret _ _ _ _ (by assumption) (by assumption) rfl
set_option maxRecDepth 100000 in
set_option maxHeartbeats 4000000 in
theorem rn_neg_bad {q p1 : Int} (hi : IntsAre vs cs) (hcs : ∀ c ∈ cs, 0 ≤ c ∧ c < 128) (hlen : cs.length < 1000000) (C1 : NextIs w cs 0 q p1 "name" (fun t => .str (Str.ofString "-") t)) (C : NextBad w cs p1) :
    CallsTop w 160 281 [.ref l] ((l, lstO vs ln) :: rest) (fun r _ => r = .none) := by
  unfold CallsTop; k_fill
  intro dp un gd cn cS a ccd A₀ base h₀ L m s pr loose mean mg mb Q E B F X N T XB TB hk hd hu ret
  refine wpAny_call ?_
  k_dflt (walk_at "my_enter")
  walk_at "my_steps"
  all_goals first
    | exact ret _ _ _ _ (by assumption) (by assumption) (.inl ⟨by assumption, _, rfl⟩)
    | exact ret _ _ _ _ (by assumption) (by assumption) (.inr ⟨by assumption, rfl⟩)
    | exact ret _ _ _ _ (by assumption) (by assumption) rfl
end
end
end
section
theorem fresh_P1 : True := by
  w_top off
  trivial
theorem codeAt_app {A T : List Int} {j : Int} (h : (A.length : Int) ≤ j) : codeAt (A ++ T) j = codeAt T (j - A.length) := by
  unfold codeAt
  rw [List.getD_eq_getElem?_getD, List.getD_eq_getElem?_getD, List.getElem?_append_right (by omega), show j.toNat - A.length = (j - (A.length : Int)).toNat by omega]
theorem codeAt_head {A T : List Int} {c : Int} : codeAt (A ++ c :: T) (A.length : Int) = c := by
  rw [codeAt_app (Int.le_refl _), Int.sub_self]; rfl
theorem codeAt_cons {c : Int} {T : List Int} {j : Int} (h : 0 ≤ j) : codeAt (c :: T) (j + 1) = codeAt T j := by
  unfold codeAt
  rw [show (j + 1).toNat = j.toNat + 1 by omega]; rfl
def okHead (T : List Int) : Prop := ∃ c r, T = c :: r ∧ ¬ (c = 32 ∨ (9 ≤ c ∧ c ≤ 13)) ∧ c ≠ 37 ∧ c ≠ 47
theorem lay_stop {A T : List Int} (h : okHead T) : Lay (A ++ T) 0 A.length A.length := by
  obtain ⟨c, r, rfl, h1, h2, h3⟩ := h
  exact .stop (by rw [codeAt_head]; exact h1) (by rw [codeAt_head]; exact h2) (.inl (by rw [codeAt_head]; exact h3))
def fronts : List (List Int) := [[], [32], [10, 9], [37, 32, 53, 10], [47, 42, 32, 55, 32, 42, 47]]
theorem lay_front {F T : List Int} (hF : F ∈ fronts) (h : okHead T) : ∃ n, Lay (F ++ T) n 0 F.length := by
  have hs := lay_stop (A := F) h
  simp only [fronts, List.mem_cons, List.not_mem_nil, or_false] at hF
  rcases hF with rfl | rfl | rfl | rfl | rfl
  · exact ⟨_, hs⟩
  · exact ⟨_, .lay (p := 0) (.inl rfl) hs⟩
  · exact ⟨_, .lay (p := 0) (.inr ⟨by simp [codeAt], by simp [codeAt]⟩) (.lay (p := 1) (.inr ⟨by simp [codeAt], by simp [codeAt]⟩) hs)⟩
  · refine ⟨_, .row (p := 0) (q := 3) rfl ⟨by decide, ?_, .inl rfl⟩ (.lay (p := 3) (.inr ⟨by simp [codeAt], by simp [codeAt]⟩) hs)⟩
    intro j h1 h2
    have : j = 0 ∨ j = 1 ∨ j = 2 := by omega
    rcases this with rfl | rfl | rfl <;> exact ⟨by simp [codeAt], by simp [codeAt]⟩
  · refine ⟨_, .rem (p := 0) (q := 5) rfl rfl ⟨by decide, ?_, rfl, rfl⟩ hs⟩
    intro j h1 h2
    have : j = 2 ∨ j = 3 ∨ j = 4 := by omega
    rcases this with rfl | rfl | rfl <;> exact ⟨by simp [codeAt], .inl (by simp [codeAt])⟩
theorem scan_ex (test : Int → Bool) (ht : test (-1) = false) (cs : List Int) : ∀ (n : Nat) (p : Int), 0 ≤ p → ((cs.length : Int) - p).toNat ≤ n → ∃ p', p ≤ p' ∧ (∀ j, p ≤ j → j < p' → test (codeAt cs j) = true) ∧ test (codeAt cs p') = false
  | 0, p, h0, hn => ⟨p, Int.le_refl _, fun j h1 h2 => by omega, by rw [codeAt_out (by omega)]; exact ht⟩
  | n + 1, p, h0, hn => by
    cases hp : test (codeAt cs p) with
    | false => exact ⟨p, Int.le_refl _, fun j h1 h2 => by omega, hp⟩
    | true =>
      by_cases hl : (cs.length : Int) ≤ p
      · rw [codeAt_out hl, ht] at hp; cases hp
      · obtain ⟨p', h1, h2, h3⟩ := scan_ex test ht cs n (p + 1) (by omega) (by omega)
        refine ⟨p', by omega, fun j a b => ?_, h3⟩
        by_cases e : j = p
        · rw [e]; exact hp
        · exact h2 j (by omega) b
theorem digs_ex {b : Int} (hb : b = 2 ∨ b = 8 ∨ b = 10 ∨ b = 16) (cs : List Int) : ∀ (n : Nat) (p : Int), 0 ≤ p → ((cs.length : Int) - p).toNat ≤ n → ∃ ds, Digs cs b p ds
  | 0, p, h0, hn => ⟨[], hb, fun k hk => absurd hk (Nat.not_lt_zero _), .inl (by
      show digitValue (codeAt cs (p + (0 : Nat))) < 0
      rw [codeAt_out (by omega)]; decide)⟩
  | n + 1, p, h0, hn => by
    by_cases hd : 0 ≤ digitValue (codeAt cs p) ∧ digitValue (codeAt cs p) < b
    · by_cases hl : (cs.length : Int) ≤ p
      · rw [codeAt_out hl] at hd
        exact absurd hd.1 (by decide)
      · obtain ⟨ds, h1, h2, h3⟩ := digs_ex hb cs n (p + 1) (by omega) (by omega)
        refine ⟨digitValue (codeAt cs p) :: ds, hb, fun k hk => ?_, ?_⟩
        · cases k with
          | zero => exact ⟨_, rfl, by rw [show p + ((0 : Nat) : Int) = p by omega], hd.1, hd.2⟩
          | succ k =>
            obtain ⟨z, z1, z2, z3⟩ := h2 k (by simpa using hk)
            exact ⟨z, by simpa using z1, by rw [show p + ((k + 1 : Nat) : Int) = p + 1 + k by omega]; exact z2, z3⟩
        · rw [List.length_cons, show p + ((ds.length + 1 : Nat) : Int) = p + 1 + ds.length by omega]; exact h3
    · exact ⟨[], hb, fun k hk => absurd hk (Nat.not_lt_zero _), by
        rw [List.length_nil, show p + ((0 : Nat) : Int) = p by omega]; omega⟩
def digCode (d : Int) : Int := if d < 10 then 48 + d else 87 + d
theorem digCode_val {d : Int} (h : 0 ≤ d ∧ d < 16) : digitValue (digCode d) = d := by
  unfold digCode digitValue
  repeat' split
  all_goals omega
theorem digs_map {A ds B : List Int} {b : Int} (hb : b = 2 ∨ b = 8 ∨ b = 10 ∨ b = 16) (hd : ∀ d ∈ ds, 0 ≤ d ∧ d < b) (hB : digitValue (codeAt B 0) < 0 ∨ b ≤ digitValue (codeAt B 0)) :
    Digs (A ++ (ds.map digCode ++ B)) b A.length ds := by
  refine ⟨hb, fun k hk => ?_, ?_⟩
  · have hm := hd ds[k] (List.getElem_mem hk)
    refine ⟨ds[k], List.getElem?_eq_getElem hk, ?_, hm⟩
    rw [codeAt_app (by omega), show (A.length : Int) + k - A.length = k by omega]
    unfold codeAt
    rw [List.getD_eq_getElem?_getD, List.getElem?_append_left (by simpa using hk)]
    simp only [Int.toNat_natCast, List.getElem?_map, List.getElem?_eq_getElem hk, Option.map_some, Option.getD_some]
    exact digCode_val ⟨hm.1, by omega⟩
  · rw [codeAt_app (by omega), show (A.length : Int) + ds.length - A.length = ((ds.map digCode).length : Int) by simp; omega, codeAt_app (Int.le_refl _), Int.sub_self]
    exact hB
end
section
theorem fresh_P2 : True := by
  w_top off
  trivial
def AtTok (w : World) (cs : List Int) (q p' : Int) (knd : String) (val : Tok → Value) : Prop := ∀ (n : Nat) (p : Int), 0 ≤ p → Lay cs n p q → NextIs w cs p q p' knd val
def AtBad (w : World) (cs : List Int) (q : Int) : Prop := ∀ (n : Nat) (p : Int), 0 ≤ p → Lay cs n p q → NextBad w cs p
theorem calls_more {w : World} {k k' : Nat} {f : Addr} {args : List Value} {news : Led} {post : Value → Led → Prop} {exc : Prop} (C : CallsTo w k f args news post exc) (h : k ≤ k' := by decide) : CallsTo w k' f args news post exc :=
  fun _ _ _ _ _ _ _ _ _ _ _ _ _ _ _ _ _ _ _ _ _ _ B F X N T hk hd hu => C _ _ _ _ _ _ _ _ _ _ _ _ _ _ _ _ _ _ _ _ _ _ B F X N T hk (by omega) (by omega)
section
variable {w : World} {cs : List Int} {q : Int}
theorem at_dec {ds : List Int} (hq : 0 ≤ q) (hc : 48 ≤ codeAt cs q ∧ codeAt cs q ≤ 57) (e1 : codeAt cs q ≠ 48 ∨ (codeAt cs (q + 1) ≠ 39 ∧ (digitValue (codeAt cs (q + 2)) < 0 ∨ numeralBase (codeAt cs (q + 1)) ≤ digitValue (codeAt cs (q + 2)))))
    (D : Digs cs 10 q ds) (e3 : codeAt cs (q + ds.length) ≠ 46 ∨ ¬ (48 ≤ codeAt cs (q + ds.length + 1) ∧ codeAt cs (q + ds.length + 1) ≤ 57)) : AtTok w cs q (q + ds.length) "int" (fun t => .int (numOf 10 ds) t) :=
  fun _ _ h0 R => ⟨fun K => c_next_num K h0 hq R hc ⟨fun _ _ _ => c_num_dec K hq e1 D e3⟩⟩
theorem at_base {ds : List Int} {b : Int} (hq : 0 ≤ q) (hc : codeAt cs q = 48) (e2 : codeAt cs (q + 1) ≠ 39) (hb : numeralBase (codeAt cs (q + 1)) = b)
    (e3 : 0 ≤ digitValue (codeAt cs (q + 2)) ∧ digitValue (codeAt cs (q + 2)) < b) (D : Digs cs b (q + 2) ds) : AtTok w cs q (q + 2 + ds.length) "int" (fun t => .int (numOf b ds) t) := by
  subst hb
  exact fun _ _ h0 R => ⟨fun K => c_next_num K h0 hq R (by omega) ⟨fun _ _ _ => c_num_base K hq hc e2 e3 D⟩⟩
theorem at_char {v : Int} (hq : 0 ≤ q) (hc : codeAt cs q = 48) (e2 : codeAt cs (q + 1) = 39) (h : 32 ≤ codeAt cs (q + 2) ∧ codeAt cs (q + 2) < 127 ∧ codeAt cs (q + 2) ≠ 92 ∧ codeAt cs (q + 2) ≠ 39) (hv : codeAt cs (q + 2) = v) :
    AtTok w cs q (q + 3) "int" (fun t => .int v t) := by
  subst hv
  exact fun _ _ h0 R => ⟨fun K => c_next_num K h0 hq R (by omega) ⟨fun _ _ _ => c_num_char K hq hc e2 ⟨fun _ _ _ => calls_more (c_char_plain K hq h)⟩⟩⟩
theorem at_quote (hq : 0 ≤ q) (hc : codeAt cs q = 48) (e2 : codeAt cs (q + 1) = 39) (h1 : codeAt cs (q + 2) = 39) (h2 : codeAt cs (q + 3) = 39) : AtTok w cs q (q + 4) "int" (fun t => .int 39 t) :=
  fun _ _ h0 R => ⟨fun K => c_next_num K h0 hq R (by omega) ⟨fun _ _ _ => c_num_char K hq hc e2 ⟨fun _ _ _ => calls_more (c_char_quote K hq h1 h2)⟩⟩⟩
theorem at_n (hq : 0 ≤ q) (hc : codeAt cs q = 48) (e2 : codeAt cs (q + 1) = 39) (h1 : codeAt cs (q + 2) = 92) (h2 : codeAt cs (q + 2 + 1) = 110) : AtTok w cs q (q + 2 + 2) "int" (fun t => .int 10 t) :=
  fun _ _ h0 R => ⟨fun K => c_next_num K h0 hq R (by omega) ⟨fun _ _ _ => c_num_char K hq hc e2 ⟨fun _ _ _ => c_char_n K hq h1 h2⟩⟩⟩
theorem at_x {ds : List Int} (hq : 0 ≤ q) (hc : codeAt cs q = 48) (e2 : codeAt cs (q + 1) = 39) (h1 : codeAt cs (q + 2) = 92) (H : Hex cs (q + 2) ds) : AtTok w cs q (q + 2 + 1 + 1 + ds.length + 1) "int" (fun t => .int (numOf 16 ds) t) :=
  fun _ _ h0 R => ⟨fun K => c_next_num K h0 hq R (by omega) ⟨fun _ _ _ => c_num_char K hq hc e2 ⟨fun _ _ _ => c_char_x K hq h1 H⟩⟩⟩
theorem at_bad {ds ds2 : List Int} (hq : 0 ≤ q) (hc : 48 ≤ codeAt cs q ∧ codeAt cs q ≤ 57) (e1 : codeAt cs q ≠ 48) (D : Digs cs 10 q ds) (e3 : codeAt cs (q + ds.length) = 46) (e4 : 48 ≤ codeAt cs (q + ds.length + 1) ∧ codeAt cs (q + ds.length + 1) ≤ 57)
    (D2 : Digs cs 10 (q + ds.length + 1) ds2) : AtBad w cs q :=
  fun _ _ h0 R => ⟨fun K => c_next_bad K h0 hq R hc ⟨fun _ _ _ => c_num_bad K hq e1 D e3 e4 D2⟩⟩
theorem at_sym {p' : Int} (hq : 0 ≤ q) (hs : codeAt cs q = 43 ∨ codeAt cs q = 45) (hp : q ≤ p') (hmid : ∀ j, q ≤ j → j < p' → isSymbol (codeAt cs j) = true) (hend : isSymbol (codeAt cs p') = false) :
    AtTok w cs q p' "name" (fun t => .str (txt (part cs q p')) t) :=
  fun _ _ h0 R => ⟨fun K => c_next_sym K h0 hq R (by rcases hs with e | e <;> rw [e] <;> decide) hs ⟨fun _ _ _ => calls_more (c_symbol K hq hp hmid hend (by omega))⟩⟩
theorem at_small (hq : 0 ≤ q) (hc : 97 ≤ codeAt cs q ∧ codeAt cs q ≤ 122) : ∃ p', q < p' ∧ AtTok w cs q p' "name" (fun t => .str (txt (part cs q p')) t) := by
  obtain ⟨p', h1, h2, h3⟩ := scan_ex isAlnum (by decide) cs _ q hq (Nat.le_refl _)
  refine ⟨p', ?_, fun _ _ h0 R => ⟨fun K => c_next_small K h0 hq R hc ⟨fun _ _ _ => c_word K hq h1 h2 h3⟩⟩⟩
  rcases Int.lt_or_le q p' with h | h
  · exact h
  · exfalso
    rw [show p' = q by omega] at h3
    simp only [isAlnum, decide_eq_false_iff_not] at h3
    omega
theorem at_cap (hq : 0 ≤ q) (hc : 65 ≤ codeAt cs q ∧ codeAt cs q ≤ 90) : ∃ p', AtTok w cs q p' "var" (fun t => .str (txt (part cs q p')) t) := by
  obtain ⟨p', h1, h2, h3⟩ := scan_ex isAlnum (by decide) cs _ q hq (Nat.le_refl _)
  exact ⟨p', fun _ _ h0 R => ⟨fun K => c_next_cap K h0 hq R hc ⟨fun _ _ _ => c_word K hq h1 h2 h3⟩⟩⟩
end
theorem part_cons {A T : List Int} {c p' : Int} (h : (A.length : Int) < p') : part (A ++ c :: T) A.length p' = c :: T.take (p'.toNat - A.length - 1) := by
  unfold part
  rw [Int.toNat_natCast, List.drop_left, show p'.toNat - A.length = (p'.toNat - A.length - 1) + 1 by omega, List.take_succ_cons]
  simp
theorem txt_minus : Str.ofString "-" = txt [45] := by decide +kernel
theorem txt_inj {a b : List Int} (h : txt a = txt b) : a.map Int.toNat = b.map Int.toNat := by
  have := congrArg (fun x : Str => x.cps.toList) h
  simpa [txt] using this
theorem not_minus {c : Int} {T : List Int} (h : c.toNat ≠ 45 ∨ T ≠ []) : txt (c :: T) ≠ Str.ofString "-" := by
  rw [txt_minus]
  intro e
  have := txt_inj e
  simp only [List.map_cons, List.map_nil, List.cons.injEq, List.map_eq_nil_iff] at this
  rcases h with h | h
  · exact h this.1
  · exact h this.2
end
section
theorem fresh_P3 : True := by
  w_top off
  trivial
theorem codeAt_at {A T : List Int} {k : Int} (h : 0 ≤ k) : codeAt (A ++ T) ((A.length : Int) + k) = codeAt T k := by
  rw [codeAt_app (by omega), show (A.length : Int) + k - A.length = k by omega]
theorem codeAt_at0 {A T : List Int} : codeAt (A ++ T) (A.length : Int) = codeAt T 0 := by
  rw [codeAt_app (Int.le_refl _), Int.sub_self]
def behinds : List (List Int) := [[], [32], [103], [46], [32, 49], [37, 32, 120]]
theorem B_facts {B : List Int} (h : B ∈ behinds) : (digitValue (codeAt B 0) < 0 ∨ 16 ≤ digitValue (codeAt B 0)) ∧ (codeAt B 0 ≠ 46 ∨ ¬ (48 ≤ codeAt B 1 ∧ codeAt B 1 ≤ 57)) ∧ codeAt B 0 ≠ 39 ∧ numeralBase (codeAt B 0) = 0 := by
  simp only [behinds, List.mem_cons, List.not_mem_nil, or_false] at h
  rcases h with rfl | rfl | rfl | rfl | rfl | rfl <;> decide
structure Based (b N : Int) (ds : List Int) : Prop where
  rng : ∀ d ∈ ds, 0 ≤ d ∧ d < b
  ne : ds ≠ []
  num : numOf b ds = N
inductive RowX (N : Int) : List Int → Option Int → Prop
  | dec {ds : List Int} (h : Based 10 N ds) : RowX N (ds.map digCode) (some N)
  | hex {ds : List Int} (h : Based 16 N ds) : RowX N (48 :: 120 :: ds.map digCode) (some N)
  | bin {ds : List Int} (h : Based 2 N ds) : RowX N (48 :: 98 :: ds.map digCode) (some N)
  | oct : RowX N [48, 111, 49, 55] (some 15)
  | ca : RowX N [48, 39, 97] (some 97)
  | cn : RowX N [48, 39, 92, 110] (some 10)
  | cq : RowX N [48, 39, 39, 39] (some 39)
  | cx : RowX N [48, 39, 92, 120, 52, 49, 92] (some 65)
  | cab : RowX N [48, 39, 97, 98] none
  | dot : RowX N [49, 46, 53] none
  | var : RowX N [88] none
  | abc : RowX N [97, 98, 99] none
  | plus : RowX N [43, 49] none
  | mm : RowX N [45, 32, 45, 49] none
  | zx : RowX N [48, 120] none
  | zb : RowX N [48, 98, 50] none
  | us : RowX N [49, 95, 48] none
inductive Kind (w : World) (A X B : List Int) (due : Option Int) : Prop
  | I {v p' : Int} (h : AtTok w (A ++ (X ++ B)) A.length p' "int" (fun t => .int v t)) (h1 : p' = (A ++ (X ++ B)).length → B = [] ∧ due = some v) (h2 : B = [] → ∀ u, due = some u → p' = (A ++ (X ++ B)).length) : Kind w A X B due
  | N {p' : Int} {T : Str} (h : AtTok w (A ++ (X ++ B)) A.length p' "name" (fun t => .str T t)) (hT : T ≠ Str.ofString "-") (hd : due = none) : Kind w A X B due
  | V {p' : Int} {T : Str} (h : AtTok w (A ++ (X ++ B)) A.length p' "var" (fun t => .str T t)) (hd : due = none) : Kind w A X B due
  | D (h : AtBad w (A ++ (X ++ B)) A.length) (hd : due = none) : Kind w A X B due
  | M {p' : Int} {T : Str} (h : AtTok w (A ++ (X ++ B)) A.length (A.length + 1) "name" (fun t => .str (Str.ofString "-") t)) (hl : ∃ n, Lay (A ++ (X ++ B)) n (A.length + 1) (A.length + 2))
      (h2 : AtTok w (A ++ (X ++ B)) (A.length + 2) p' "name" (fun t => .str T t)) (hd : due = none) : Kind w A X B due
theorem len_app {A X B : List Int} : ((A ++ (X ++ B)).length : Int) = A.length + X.length + B.length := by
  simp only [List.length_append]; omega
theorem nil_of {B : List Int} (h : (B.length : Int) = 0) : B = [] := List.eq_nil_of_length_eq_zero (by omega)
theorem dig_head {d : Int} {ds B : List Int} {b : Int} (hb : b ≤ 16) (h : ∀ x ∈ d :: ds, 0 ≤ x ∧ x < b) : digitValue (codeAt ((d :: ds).map digCode ++ B) 0) = d := by
  have := h d (.head _)
  exact digCode_val ⟨this.1, by omega⟩
theorem code_dec {d : Int} (h : 0 ≤ d ∧ d < 10) : digCode d = 48 + d := by unfold digCode; rw [if_pos h.2]
theorem dec_next {d : Int} {ds B : List Int} (h : ∀ x ∈ d :: ds, 0 ≤ x ∧ x < 10) (hB : B ∈ behinds) : codeAt ((d :: ds).map digCode ++ B) 1 ≠ 39 ∧ numeralBase (codeAt ((d :: ds).map digCode ++ B) 1) = 0 := by
  cases ds with
  | nil => exact ⟨(B_facts hB).2.2.1, (B_facts hB).2.2.2⟩
  | cons e r =>
    have he := h e (.tail _ (.head _))
    have : codeAt ((d :: e :: r).map digCode ++ B) 1 = 48 + e := by rw [← code_dec he]; rfl
    rw [this]
    refine ⟨by omega, ?_⟩
    unfold numeralBase
    rw [if_neg (by omega), if_neg (by omega), if_neg (by omega)]
theorem kind_dec {w : World} {A B ds : List Int} {N : Int} (h : Based 10 N ds) (hB : B ∈ behinds) : Kind w A (ds.map digCode) B (some N) := by
  obtain ⟨hr, hne, hn⟩ := h
  obtain ⟨b1, b2, b3, b4⟩ := B_facts hB
  have hD := digs_map (A := A) (B := B) (b := 10) (ds := ds) (by omega) hr (by omega)
  have e1 : codeAt (A ++ (ds.map digCode ++ B)) (A.length + ds.length) = codeAt B 0 := by
    rw [codeAt_at (by omega), show ((ds.length : Nat) : Int) = ((ds.map digCode).length : Int) by simp, codeAt_at0]
  have e2 : codeAt (A ++ (ds.map digCode ++ B)) (A.length + ds.length + 1) = codeAt B 1 := by
    rw [show (A.length : Int) + ds.length + 1 = A.length + (ds.length + 1) by omega, codeAt_at (by omega), show ((ds.length : Nat) : Int) = ((ds.map digCode).length : Int) by simp, codeAt_at (by omega)]
  cases ds with
  | nil => exact absurd rfl hne
  | cons d r =>
    have hd := hr d (.head _)
    have c0 : codeAt (A ++ ((d :: r).map digCode ++ B)) A.length = 48 + d := by rw [codeAt_at0, ← code_dec hd]; rfl
    have c1 : codeAt (A ++ ((d :: r).map digCode ++ B)) (A.length + 1) = codeAt ((d :: r).map digCode ++ B) 1 := codeAt_at (by omega)
    obtain ⟨n1, n2⟩ := dec_next hr hB
    refine .I (at_dec (by omega) (by omega) (.inr ⟨by rw [c1]; exact n1, by rw [c1, n2]; omega⟩) hD (by rw [e1, e2]; exact b2)) (fun e => ?_) (fun hb u hu => ?_)
    · rw [len_app, List.length_map] at e
      exact ⟨nil_of (by omega), by rw [hn]⟩
    · rw [len_app, List.length_map, hb, List.length_nil]; omega
theorem kind_base {w : World} {A B ds : List Int} {N b c : Int} (hb : b = 2 ∨ b = 8 ∨ b = 16) (hc : numeralBase c = b) (h39 : c ≠ 39) (h : Based b N ds) (hB : B ∈ behinds) : Kind w A (48 :: c :: ds.map digCode) B (some N) := by
  obtain ⟨hr, hne, hn⟩ := h
  obtain ⟨b1, b2, b3, b4⟩ := B_facts hB
  have hD := digs_map (A := A ++ [48, c]) (B := B) (b := b) (ds := ds) (by omega) hr (by omega)
  have ea : A ++ (48 :: c :: ds.map digCode ++ B) = A ++ [48, c] ++ (ds.map digCode ++ B) := by simp
  have el : (((A ++ [48, c]).length : Nat) : Int) = A.length + 2 := by simp
  rw [el] at hD
  rw [← ea] at hD
  have c0 : codeAt (A ++ (48 :: c :: ds.map digCode ++ B)) A.length = 48 := by rw [codeAt_at0]; rfl
  have c1 : codeAt (A ++ (48 :: c :: ds.map digCode ++ B)) (A.length + 1) = c := by rw [codeAt_at (by omega)]; rfl
  have c2 : codeAt (A ++ (48 :: c :: ds.map digCode ++ B)) (A.length + 2) = codeAt (ds.map digCode ++ B) 0 := by rw [codeAt_at (by omega)]; rfl
  cases ds with
  | nil => exact absurd rfl hne
  | cons d r =>
    have hd := hr d (.head _)
    have hv := dig_head (b := b) (B := B) (by omega) hr
    refine .I (at_base (b := b) (by omega) c0 (by rw [c1]; exact h39) (by rw [c1]; exact hc) (by rw [c2, hv]; exact hd) hD) (fun e => ?_) (fun hb u hu => ?_)
    · rw [len_app] at e
      simp only [List.length_cons, List.length_map] at e
      exact ⟨nil_of (by omega), by rw [hn]⟩
    · rw [len_app, hb]; simp only [List.length_cons, List.length_map, List.length_nil]; omega
theorem kind_oct {w : World} {A B : List Int} {N : Int} (hB : B ∈ behinds) : Kind w A [48, 111, 49, 55] B (some 15) := by
  have h := kind_base (w := w) (A := A) (B := B) (ds := [1, 7]) (N := 15) (b := 8) (c := 111) (by omega) (by decide) (by decide) ⟨by decide, by decide, by decide⟩ hB
  exact h
theorem kind_ca {w : World} {A B : List Int} : Kind w A [48, 39, 97] B (some 97) := by
  have c2 : codeAt (A ++ ([48, 39, 97] ++ B)) (A.length + 2) = 97 := by rw [codeAt_at (by omega)]; rfl
  refine .I (at_char (v := 97) (by omega) (by rw [codeAt_at0]; rfl) (by rw [codeAt_at (by omega)]; rfl) (by rw [c2]; decide) c2) (fun e => ?_) (fun hb u hu => ?_)
  · rw [len_app] at e
    exact ⟨nil_of (by simp at e; omega), rfl⟩
  · rw [len_app, hb]; simp
theorem kind_cab {w : World} {A B : List Int} : Kind w A [48, 39, 97, 98] B none := by
  have c2 : codeAt (A ++ ([48, 39, 97, 98] ++ B)) (A.length + 2) = 97 := by rw [codeAt_at (by omega)]; rfl
  refine .I (at_char (v := 97) (by omega) (by rw [codeAt_at0]; rfl) (by rw [codeAt_at (by omega)]; rfl) (by rw [c2]; decide) c2) (fun e => ?_) (fun hb u hu => nomatch hu)
  rw [len_app] at e
  simp at e; omega
theorem kind_cq {w : World} {A B : List Int} : Kind w A [48, 39, 39, 39] B (some 39) := by
  refine .I (at_quote (by omega) (by rw [codeAt_at0]; rfl) (by rw [codeAt_at (by omega)]; rfl) (by rw [codeAt_at (by omega)]; rfl) (by rw [codeAt_at (by omega)]; rfl)) (fun e => ?_) (fun hb u hu => ?_)
  · rw [len_app] at e
    exact ⟨nil_of (by simp at e; omega), rfl⟩
  · rw [len_app, hb]; simp
theorem kind_cn {w : World} {A B : List Int} : Kind w A [48, 39, 92, 110] B (some 10) := by
  refine .I (at_n (by omega) (by rw [codeAt_at0]; rfl) (by rw [codeAt_at (by omega)]; rfl) (by rw [codeAt_at (by omega)]; rfl) (by rw [show (A.length : Int) + 2 + 1 = A.length + 3 by omega, codeAt_at (by omega)]; rfl)) (fun e => ?_) (fun hb u hu => ?_)
  · rw [len_app] at e
    exact ⟨nil_of (by simp at e; omega), rfl⟩
  · rw [len_app, hb]; simp; omega
theorem kind_cx {w : World} {A B : List Int} : Kind w A [48, 39, 92, 120, 52, 49, 92] B (some 65) := by
  have ea : A ++ ([48, 39, 92, 120, 52, 49, 92] ++ B) = A ++ [48, 39, 92, 120] ++ (([4, 1] : List Int).map digCode ++ (92 :: B)) := by simp [digCode]
  have hD := digs_map (A := A ++ [48, 39, 92, 120]) (B := 92 :: B) (b := 16) (ds := [4, 1]) (by omega) (by decide) (.inl (by show digitValue 92 < 0; decide))
  have el : (((A ++ [48, 39, 92, 120]).length : Nat) : Int) = A.length + 2 + 1 + 1 := by simp; omega
  rw [← ea, el] at hD
  have H : Hex (A ++ ([48, 39, 92, 120, 52, 49, 92] ++ B)) (A.length + 2) [4, 1] := by
    refine ⟨by rw [show (A.length : Int) + 2 + 1 = A.length + 3 by omega, codeAt_at (by omega)]; rfl, hD, by decide, by decide, ?_⟩
    rw [show (A.length : Int) + 2 + 1 + 1 + (([4, 1] : List Int).length : Nat) = A.length + 6 by simp; omega, codeAt_at (by omega)]; rfl
  refine .I (at_x (by omega) (by rw [codeAt_at0]; rfl) (by rw [codeAt_at (by omega)]; rfl) (by rw [codeAt_at (by omega)]; rfl) H) (fun e => ?_) (fun hb u hu => ?_)
  · rw [len_app] at e
    exact ⟨nil_of (by simp at e; omega), rfl⟩
  · rw [len_app, hb]; simp; omega
theorem digs_one {A T : List Int} {d : Int} {r : List Int} (hd : 0 ≤ d ∧ d < 10) (hT : T = (48 + d) :: r) (hr : digitValue (codeAt r 0) < 0 ∨ 10 ≤ digitValue (codeAt r 0)) : Digs (A ++ T) 10 A.length [d] := by
  have h := digs_map (A := A) (B := r) (b := 10) (ds := [d]) (by omega) (by intro x hx; rw [List.mem_singleton.mp hx]; exact hd) hr
  rw [hT]
  simpa [code_dec hd] using h
theorem kind_zx {w : World} {A B : List Int} (hB : B ∈ behinds) : Kind w A [48, 120] B none := by
  obtain ⟨b1, b2, b3, b4⟩ := B_facts hB
  have hD := digs_one (A := A) (T := [48, 120] ++ B) (d := 0) (r := 120 :: B) (by omega) rfl (.inr (by show 10 ≤ digitValue 120; decide))
  have c1 : codeAt (A ++ ([48, 120] ++ B)) (A.length + 1) = 120 := by rw [codeAt_at (by omega)]; rfl
  have c2 : codeAt (A ++ ([48, 120] ++ B)) (A.length + 2) = codeAt B 0 := by rw [codeAt_at (by omega)]; rfl
  have n16 : numeralBase 120 = 16 := by decide
  refine .I (at_dec (by omega) (by rw [codeAt_at0]; show 48 ≤ (48 : Int) ∧ (48 : Int) ≤ 57; decide) (.inr ⟨by rw [c1]; decide, by rw [c1, c2, n16]; omega⟩) hD (.inl (by
    rw [show (A.length : Int) + (([0] : List Int).length : Nat) = A.length + 1 by simp, c1]; decide))) (fun e => ?_) (fun hb u hu => nomatch hu)
  rw [len_app] at e
  simp at e; omega
theorem kind_zb {w : World} {A B : List Int} : Kind w A [48, 98, 50] B none := by
  have hD := digs_one (A := A) (T := [48, 98, 50] ++ B) (d := 0) (r := 98 :: 50 :: B) (by omega) rfl (.inr (by show 10 ≤ digitValue 98; decide))
  have c1 : codeAt (A ++ ([48, 98, 50] ++ B)) (A.length + 1) = 98 := by rw [codeAt_at (by omega)]; rfl
  have c2 : codeAt (A ++ ([48, 98, 50] ++ B)) (A.length + 2) = 50 := by rw [codeAt_at (by omega)]; rfl
  refine .I (at_dec (by omega) (by rw [codeAt_at0]; show 48 ≤ (48 : Int) ∧ (48 : Int) ≤ 57; decide) (.inr ⟨by rw [c1]; decide, by rw [c1, c2]; decide⟩) hD (.inl (by
    rw [show (A.length : Int) + (([0] : List Int).length : Nat) = A.length + 1 by simp, c1]; decide))) (fun e => ?_) (fun hb u hu => nomatch hu)
  rw [len_app] at e
  simp at e; omega
theorem kind_us {w : World} {A B : List Int} : Kind w A [49, 95, 48] B none := by
  have hD := digs_one (A := A) (T := [49, 95, 48] ++ B) (d := 1) (r := 95 :: 48 :: B) (by omega) rfl (.inl (by show digitValue 95 < 0; decide))
  have c0 : codeAt (A ++ ([49, 95, 48] ++ B)) A.length = 49 := by rw [codeAt_at0]; rfl
  have c1 : codeAt (A ++ ([49, 95, 48] ++ B)) (A.length + 1) = 95 := by rw [codeAt_at (by omega)]; rfl
  refine .I (at_dec (by omega) (by rw [c0]; decide) (.inl (by rw [c0]; decide)) hD (.inl (by
    rw [show (A.length : Int) + (([1] : List Int).length : Nat) = A.length + 1 by simp, c1]; decide))) (fun e => ?_) (fun hb u hu => nomatch hu)
  rw [len_app] at e
  simp at e; omega
theorem kind_dot {w : World} {A B : List Int} : Kind w A [49, 46, 53] B none := by
  have hD := digs_one (A := A) (T := [49, 46, 53] ++ B) (d := 1) (r := 46 :: 53 :: B) (by omega) rfl (.inl (by show digitValue 46 < 0; decide))
  have c0 : codeAt (A ++ ([49, 46, 53] ++ B)) A.length = 49 := by rw [codeAt_at0]; rfl
  have e1 : (A.length : Int) + (([1] : List Int).length : Nat) = A.length + 1 := by simp
  obtain ⟨ds2, hD2⟩ := digs_ex (b := 10) (by omega) (A ++ ([49, 46, 53] ++ B)) _ ((A.length : Int) + (([1] : List Int).length : Nat) + 1) (by omega) (Nat.le_refl _)
  refine .D (at_bad (by omega) (by rw [c0]; decide) (by rw [c0]; decide) hD (by rw [e1, codeAt_at (by omega)]; rfl) (by
    rw [e1, show (A.length : Int) + 1 + 1 = A.length + 2 by omega, codeAt_at (by omega)]
    show 48 ≤ (53 : Int) ∧ (53 : Int) ≤ 57
    decide) hD2) rfl
theorem kind_var {w : World} {A B : List Int} : Kind w A [88] B none := by
  obtain ⟨p', h⟩ := at_cap (w := w) (cs := A ++ ([88] ++ B)) (q := A.length) (by omega) (by rw [codeAt_at0]; show 65 ≤ (88 : Int) ∧ (88 : Int) ≤ 90; decide)
  exact .V h rfl
theorem kind_abc {w : World} {A B : List Int} : Kind w A [97, 98, 99] B none := by
  obtain ⟨p', h1, h⟩ := at_small (w := w) (cs := A ++ ([97, 98, 99] ++ B)) (q := A.length) (by omega) (by rw [codeAt_at0]; show 97 ≤ (97 : Int) ∧ (97 : Int) ≤ 122; decide)
  refine .N h ?_ rfl
  rw [show A ++ ([97, 98, 99] ++ B) = A ++ 97 :: ([98, 99] ++ B) from rfl, part_cons h1]
  exact not_minus (.inl (by decide))
theorem at_long {w : World} {A T : List Int} {s : Int} (hs : s = 43 ∨ s = 45) (h : s = 43 ∨ isSymbol (codeAt T 0) = true) : ∃ (p' : Int) (X : Str), AtTok w (A ++ s :: T) A.length p' "name" (fun t => .str X t) ∧ X ≠ Str.ofString "-" := by
  have c0 : codeAt (A ++ s :: T) A.length = s := codeAt_head
  have hsym : isSymbol s = true := by rcases hs with rfl | rfl <;> decide
  obtain ⟨p', h1, h2, h3⟩ := scan_ex isSymbol (by decide) (A ++ s :: T) _ (A.length : Int) (by omega) (Nat.le_refl _)
  have hp : (A.length : Int) < p' := by
    rcases Int.lt_or_le (A.length : Int) p' with q | q
    · exact q
    · rw [show p' = A.length by omega, c0, hsym] at h3; cases h3
  refine ⟨p', _, at_sym (by omega) (by rw [c0]; exact hs) h1 h2 h3, ?_⟩
  rw [part_cons hp]
  rcases h with rfl | h
  · exact not_minus (.inl (by decide))
  · refine not_minus (.inr ?_)
    have c1 : codeAt (A ++ s :: T) (A.length + 1) = codeAt T 0 := by rw [codeAt_at (by omega)]; rfl
    have hp2 : (A.length : Int) + 1 < p' := by
      rcases Int.lt_or_le ((A.length : Int) + 1) p' with q | q
      · exact q
      · rw [show p' = A.length + 1 by omega, c1, h] at h3; cases h3
    cases T with
    | nil => exact absurd h (by decide)
    | cons c r =>
      obtain ⟨k, hk⟩ : ∃ k, p'.toNat - A.length - 1 = k + 1 := ⟨p'.toNat - A.length - 2, by omega⟩
      rw [hk, List.take_succ_cons]
      exact List.cons_ne_nil _ _
theorem at_minus {w : World} {A T : List Int} (h : isSymbol (codeAt T 0) = false) : AtTok w (A ++ 45 :: T) A.length (A.length + 1) "name" (fun t => .str (Str.ofString "-") t) := by
  have c0 : codeAt (A ++ 45 :: T) A.length = 45 := codeAt_head
  have c1 : codeAt (A ++ 45 :: T) (A.length + 1) = codeAt T 0 := by rw [codeAt_at (by omega)]; rfl
  have z := at_sym (w := w) (cs := A ++ 45 :: T) (q := A.length) (p' := A.length + 1) (by omega) (.inr c0) (by omega) (fun j a b => by rw [show j = A.length by omega, c0]; decide) (by rw [c1]; exact h)
  rw [part_cons (by omega), show (((A.length : Int) + 1).toNat - A.length - 1) = 0 by omega, List.take_zero, ← txt_minus] at z
  exact z
theorem kind_plus {w : World} {A B : List Int} : Kind w A [43, 49] B none := by
  obtain ⟨p', X, h, hX⟩ := at_long (w := w) (A := A) (T := [49] ++ B) (s := 43) (.inl rfl) (.inl rfl)
  exact .N h hX rfl
theorem kind_mm {w : World} {A B : List Int} : Kind w A [45, 32, 45, 49] B none := by
  have h := at_minus (w := w) (A := A) (T := [32, 45, 49] ++ B) (by show isSymbol 32 = false; decide)
  have h2 := at_minus (w := w) (A := A ++ [45, 32]) (T := [49] ++ B) (by show isSymbol 49 = false; decide)
  have ea : A ++ [45, 32] ++ 45 :: ([49] ++ B) = A ++ ([45, 32, 45, 49] ++ B) := by simp
  have el : (((A ++ [45, 32]).length : Nat) : Int) = A.length + 2 := by simp
  have hl := lay_stop (A := A ++ [45, 32]) (T := 45 :: ([49] ++ B)) ⟨_, _, rfl, by decide, by decide, by decide⟩
  rw [ea, el] at h2 hl
  refine .M h ⟨_, .lay (n := 0) (.inl (by rw [codeAt_at (by omega)]; rfl)) ?_⟩ h2 rfl
  rw [show (A.length : Int) + 1 + 1 = A.length + 2 by omega]
  exact hl
theorem kind_all {w : World} {A X B : List Int} {N : Int} {due : Option Int} (h : RowX N X due) (hB : B ∈ behinds) : Kind w A X B due := by
  cases h with
  | dec h => exact kind_dec h hB
  | hex h => exact kind_base (b := 16) (by omega) (by decide) (by decide) h hB
  | bin h => exact kind_base (b := 2) (by omega) (by decide) (by decide) h hB
  | oct => exact kind_oct (N := N) hB
  | ca => exact kind_ca
  | cn => exact kind_cn
  | cq => exact kind_cq
  | cx => exact kind_cx
  | cab => exact kind_cab
  | dot => exact kind_dot
  | var => exact kind_var
  | abc => exact kind_abc
  | plus => exact kind_plus
  | mm => exact kind_mm
  | zx => exact kind_zx hB
  | zb => exact kind_zb
  | us => exact kind_us
end
section
theorem fresh_P4 : True := by
  w_top off
  trivial
theorem top_mono {w : World} {k : Nat} {f : Addr} {args : List Value} {news : Led} {post post' : Value → Led → Prop} (C : CallsTop w k f args news post) (h : ∀ r n, post r n → post' r n) : CallsTop w k f args news post' :=
  fun _ _ _ _ _ _ _ _ _ _ _ _ _ _ _ _ _ _ _ _ B F X N T XB TB hk hd hu ret => C _ _ _ _ _ _ _ _ _ _ _ _ _ _ _ _ _ _ _ _ B F X N T XB TB hk hd hu fun r h' tk' n F' N' p => ret r h' tk' n F' N' (h r n p)
def Means (res : Option Int) (r : Value) : Prop := match res with
  | some v => ∃ t, r = .int v t
  | none => r = .none
def RnTo (w : World) (cs : List Int) (res : Option Int) : Prop := ∀ (l : Addr) (vs : List Value) (ln : Nat) (rest : Led), IntsAre vs cs → (∀ c ∈ cs, 0 ≤ c ∧ c < 128) → cs.length < 1000000 → CallsTop w 160 281 [.ref l] ((l, lstO vs ln) :: rest) (fun r _ => Means res r)
def resOf (S : List Int) (due : Option Int) (B : List Int) : Option Int := if S = [45, 32] ∨ S = [45, 47, 42, 42, 47] ∨ B ≠ [] then none else if S = [45] then due.map (fun v => (-1) * v) else due
def signs4 : List (List Int) := [[], [45], [45, 32], [45, 47, 42, 42, 47]]
theorem row_head {N : Int} {X : List Int} {due : Option Int} (h : RowX N X due) : ∃ c r, X = c :: r ∧ ((48 ≤ c ∧ c ≤ 57) ∨ c = 88 ∨ c = 97 ∨ c = 43 ∨ c = 45) := by
  cases h with
  | @dec ds h =>
    obtain ⟨hr, hne, _⟩ := h
    cases ds with
    | nil => exact absurd rfl hne
    | cons d r =>
      have hd := hr d (.head _)
      exact ⟨_, _, rfl, .inl (by rw [code_dec hd]; omega)⟩
  | hex h => exact ⟨_, _, rfl, by omega⟩
  | bin h => exact ⟨_, _, rfl, by omega⟩
  | oct => exact ⟨_, _, rfl, by omega⟩
  | ca => exact ⟨_, _, rfl, by omega⟩
  | cn => exact ⟨_, _, rfl, by omega⟩
  | cq => exact ⟨_, _, rfl, by omega⟩
  | cx => exact ⟨_, _, rfl, by omega⟩
  | cab => exact ⟨_, _, rfl, by omega⟩
  | dot => exact ⟨_, _, rfl, by omega⟩
  | var => exact ⟨_, _, rfl, by omega⟩
  | abc => exact ⟨_, _, rfl, by omega⟩
  | plus => exact ⟨_, _, rfl, by omega⟩
  | mm => exact ⟨_, _, rfl, by omega⟩
  | zx => exact ⟨_, _, rfl, by omega⟩
  | zb => exact ⟨_, _, rfl, by omega⟩
  | us => exact ⟨_, _, rfl, by omega⟩
theorem ok_of {X B : List Int} (h : ∃ c r, X = c :: r ∧ ((48 ≤ c ∧ c ≤ 57) ∨ c = 88 ∨ c = 97 ∨ c = 43 ∨ c = 45)) : okHead (X ++ B) := by
  obtain ⟨c, r, rfl, h⟩ := h
  exact ⟨c, r ++ B, rfl, by omega, by omega, by omega⟩
theorem sym_of {X B : List Int} (h : ∃ c r, X = c :: r ∧ ((48 ≤ c ∧ c ≤ 57) ∨ c = 88 ∨ c = 97)) : isSymbol (codeAt (X ++ B) 0) = false := by
  obtain ⟨c, r, rfl, h⟩ := h
  show isSymbol c = false
  have : ∀ n : Nat, n < 128 → ((48 ≤ n ∧ n ≤ 57) ∨ n = 88 ∨ n = 97) → isSymbol (n : Int) = false := by decide
  have z := this c.toNat (by omega) (by omega)
  rwa [show ((c.toNat : Nat) : Int) = c by omega] at z
theorem sym_yes {X B : List Int} (h : ∃ c r, X = c :: r ∧ (c = 43 ∨ c = 45)) : isSymbol (codeAt (X ++ B) 0) = true := by
  obtain ⟨c, r, rfl, h⟩ := h
  show isSymbol c = true
  rcases h with rfl | rfl <;> decide
theorem res_none {S B : List Int} : resOf S none B = none := by
  unfold resOf
  repeat' split
  all_goals rfl
-- no sign: the first token is the whole
theorem rn_plain {w : World} {F X B : List Int} {due : Option Int} (hl : ∃ n, Lay (F ++ (X ++ B)) n 0 F.length) (K : Kind w F X B due) : RnTo w (F ++ (X ++ B)) (resOf [] due B) := by
  obtain ⟨n, hl⟩ := hl
  intro l vs ln rest hi hc hn
  cases K with
  | @I v p' h h1 h2 =>
    refine top_mono (rn_int hi hc hn (h _ _ (Int.le_refl _) hl)) fun r _ hr => ?_
    rcases hr with ⟨e, t, hr⟩ | ⟨e, hr⟩
    · obtain ⟨hB, hd⟩ := h1 e
      subst hB hd
      exact ⟨t, by rw [hr, Int.one_mul]⟩
    · show Means (resOf [] due B) r
      have : resOf [] due B = none := by
        unfold resOf
        by_cases hB : B = []
        · cases due with
          | none => simp
          | some u => exact absurd (h2 hB u rfl) e
        · rw [if_pos (.inr (.inr hB))]
      rw [this]; exact hr
  | N h hT hd => subst hd; rw [res_none]; exact top_mono (rn_name hi hc hn (h _ _ (Int.le_refl _) hl) hT) fun r _ hr => hr
  | V h hd => subst hd; rw [res_none]; exact top_mono (rn_var hi hc hn (h _ _ (Int.le_refl _) hl)) fun r _ hr => hr
  | D h hd => subst hd; rw [res_none]; exact top_mono (rn_bad hi hc hn (h _ _ (Int.le_refl _) hl)) fun r _ hr => hr
  | M h hl2 h2 hd =>
    obtain ⟨n2, hl2⟩ := hl2
    subst hd; rw [res_none]
    exact top_mono (rn_neg_gap hi hc hn (h _ _ (Int.le_refl _) hl) (by omega) (h2 _ _ (by omega) hl2)) fun r _ hr => hr
-- a minus right in front
theorem rn_minus {w : World} {F X B : List Int} {due : Option Int} (hl : ∃ n, Lay (F ++ 45 :: (X ++ B)) n 0 F.length) (hs : isSymbol (codeAt (X ++ B) 0) = false) (ho : okHead (X ++ B)) (K : Kind w (F ++ [45]) X B due) : RnTo w (F ++ 45 :: (X ++ B)) (resOf [45] due B) := by
  obtain ⟨n, hl⟩ := hl
  have ea : F ++ [45] ++ (X ++ B) = F ++ 45 :: (X ++ B) := by simp
  have el : (((F ++ [45]).length : Nat) : Int) = F.length + 1 := by simp
  have h0 := at_minus (w := w) (A := F) hs _ _ (Int.le_refl _) hl
  have l2 := lay_stop (A := F ++ [45]) ho
  rw [ea, el] at l2
  intro l vs ln rest hi hc hn
  cases K with
  | @I v p' h h1 h2 =>
    rw [ea, el] at h
    rw [ea] at h1 h2
    refine top_mono (rn_neg_int hi hc hn h0 rfl (h _ _ (by omega) l2)) fun r _ hr => ?_
    rcases hr with ⟨e, t, hr⟩ | ⟨e, hr⟩
    · obtain ⟨hB, hd⟩ := h1 e
      subst hB hd
      exact ⟨t, hr⟩
    · show Means (resOf [45] due B) r
      have : resOf [45] due B = none := by
        unfold resOf
        by_cases hB : B = []
        · cases due with
          | none => simp
          | some u => exact absurd (h2 hB u rfl) e
        · rw [if_pos (.inr (.inr hB))]
      rw [this]; exact hr
  | N h hT hd => rw [ea, el] at h; subst hd; rw [res_none]; exact top_mono (rn_neg_name hi hc hn h0 rfl (h _ _ (by omega) l2)) fun r _ hr => hr
  | V h hd => rw [ea, el] at h; subst hd; rw [res_none]; exact top_mono (rn_neg_var hi hc hn h0 rfl (h _ _ (by omega) l2)) fun r _ hr => hr
  | D h hd => rw [ea, el] at h; subst hd; rw [res_none]; exact top_mono (rn_neg_bad hi hc hn h0 (h _ _ (by omega) l2)) fun r _ hr => hr
  | M h hl2 h2 hd => rw [ea, el] at h; subst hd; rw [res_none]; exact top_mono (rn_neg_name hi hc hn h0 rfl (h _ _ (by omega) l2)) fun r _ hr => hr
-- a minus, then a blank
theorem rn_gap {w : World} {F X B : List Int} {due : Option Int} (hl : ∃ n, Lay (F ++ 45 :: 32 :: (X ++ B)) n 0 F.length) (ho : okHead (X ++ B)) (K : Kind w (F ++ [45, 32]) X B due) : RnTo w (F ++ 45 :: 32 :: (X ++ B)) none := by
  obtain ⟨n, hl⟩ := hl
  have ea : F ++ [45, 32] ++ (X ++ B) = F ++ 45 :: 32 :: (X ++ B) := by simp
  have el : (((F ++ [45, 32]).length : Nat) : Int) = F.length + 2 := by simp
  have h0 := at_minus (w := w) (A := F) (T := 32 :: (X ++ B)) (by show isSymbol 32 = false; decide) _ _ (Int.le_refl _) hl
  have l3 := lay_stop (A := F ++ [45, 32]) ho
  rw [ea, el] at l3
  have l2 : Lay (F ++ 45 :: 32 :: (X ++ B)) 1 (F.length + 1) (F.length + 2) := .lay (n := 0) (.inl (by rw [codeAt_at (by omega)]; rfl)) (by rw [show (F.length : Int) + 1 + 1 = F.length + 2 by omega]; exact l3)
  intro l vs ln rest hi hc hn
  cases K with
  | I h h1 h2 => rw [ea, el] at h; exact top_mono (rn_neg_gap hi hc hn h0 (by omega) (h _ _ (by omega) l2)) fun r _ hr => hr
  | N h hT hd => rw [ea, el] at h; exact top_mono (rn_neg_gap hi hc hn h0 (by omega) (h _ _ (by omega) l2)) fun r _ hr => hr
  | V h hd => rw [ea, el] at h; exact top_mono (rn_neg_gap hi hc hn h0 (by omega) (h _ _ (by omega) l2)) fun r _ hr => hr
  | D h hd => rw [ea, el] at h; exact top_mono (rn_neg_bad hi hc hn h0 (h _ _ (by omega) l2)) fun r _ hr => hr
  | M h hl2 h2 hd => rw [ea, el] at h; exact top_mono (rn_neg_gap hi hc hn h0 (by omega) (h _ _ (by omega) l2)) fun r _ hr => hr
theorem rn_long {w : World} {F T : List Int} (hl : ∃ n, Lay (F ++ 45 :: T) n 0 F.length) (hs : isSymbol (codeAt T 0) = true) : RnTo w (F ++ 45 :: T) none := by
  obtain ⟨n, hl⟩ := hl
  obtain ⟨p', X, h, hX⟩ := at_long (w := w) (A := F) (T := T) (s := 45) (.inr rfl) (.inr hs)
  intro l vs ln rest hi hc hn
  exact top_mono (rn_name hi hc hn (h _ _ (Int.le_refl _) hl) hX) fun r _ hr => hr
theorem minus_ok {T : List Int} : okHead (45 :: T) := ⟨_, _, rfl, by decide, by decide, by decide⟩
theorem row_sym {N : Int} {X B : List Int} {due : Option Int} (h : RowX N X due) : due = none ∨ isSymbol (codeAt (X ++ B) 0) = false := by
  have no : (∃ c r, X = c :: r ∧ ((48 ≤ c ∧ c ≤ 57) ∨ c = 88 ∨ c = 97)) → due = none ∨ isSymbol (codeAt (X ++ B) 0) = false := fun e => .inr (sym_of e)
  cases h with
  | @dec ds h =>
    obtain ⟨hr, hne, _⟩ := h
    cases ds with
    | nil => exact absurd rfl hne
    | cons d r =>
      have hd := hr d (.head _)
      exact no ⟨_, _, rfl, .inl (by rw [code_dec hd]; omega)⟩
  | hex h => exact no ⟨_, _, rfl, by omega⟩
  | bin h => exact no ⟨_, _, rfl, by omega⟩
  | oct => exact no ⟨_, _, rfl, by omega⟩
  | ca => exact no ⟨_, _, rfl, by omega⟩
  | cn => exact no ⟨_, _, rfl, by omega⟩
  | cq => exact no ⟨_, _, rfl, by omega⟩
  | cx => exact no ⟨_, _, rfl, by omega⟩
  | cab => exact .inl rfl
  | dot => exact .inl rfl
  | var => exact .inl rfl
  | abc => exact .inl rfl
  | plus => exact .inl rfl
  | mm => exact .inl rfl
  | zx => exact .inl rfl
  | zb => exact .inl rfl
  | us => exact .inl rfl
theorem rn_all {w : World} {F S X B : List Int} {N : Int} {due : Option Int} (hF : F ∈ fronts) (hS : S ∈ signs4) (hX : RowX N X due) (hB : B ∈ behinds) : RnTo w (F ++ (S ++ (X ++ B))) (resOf S due B) := by
  have hh := row_head hX
  have ho := ok_of (B := B) hh
  simp only [signs4, List.mem_cons, List.not_mem_nil, or_false] at hS
  rcases hS with rfl | rfl | rfl | rfl
  · exact rn_plain (lay_front hF ho) (kind_all hX hB)
  · cases hsym : isSymbol (codeAt (X ++ B) 0) with
    | true =>
      have hd : due = none := by
        rcases row_sym (B := B) hX with h | h
        · exact h
        · rw [hsym] at h; cases h
      subst hd; rw [res_none]
      exact rn_long (T := X ++ B) (lay_front hF minus_ok) hsym
    | false => exact rn_minus (X := X) (B := B) (lay_front hF minus_ok) hsym ho (kind_all hX hB)
  · have e : resOf [45, 32] due B = none := by unfold resOf; rw [if_pos (.inl rfl)]
    rw [e]
    exact rn_gap (X := X) (B := B) (lay_front hF minus_ok) ho (kind_all hX hB)
  · have e : resOf [45, 47, 42, 42, 47] due B = none := by unfold resOf; rw [if_pos (.inr (.inl rfl))]
    rw [e]
    exact rn_long (T := 47 :: 42 :: 42 :: 47 :: (X ++ B)) (lay_front hF minus_ok) (by show isSymbol 47 = true; decide)
end
section
theorem fresh_P5 : True := by
  w_top off
  trivial
theorem fmod_rng (N : Int) {b : Int} (h : 0 < b) : 0 ≤ N.fmod b ∧ N.fmod b < b := (fdiv_fmod_facts N b).2.2.1 h
def bitS (i : Int) : Str := if i = 0 then Str.ofString "0" else Str.ofString "1"
theorem bitS_txt {i : Int} (h : 0 ≤ i ∧ i < 2) : bitS i = txt [digCode i] := by
  have : i = 0 ∨ i = 1 := by omega
  rcases this with rfl | rfl <;> decide +kernel
theorem hex_txt {i : Int} (h : 0 ≤ i ∧ i < 16) : Txt.item (Str.ofString "0123456789abcdef") i = txt [digCode i] := by
  have : i = 0 ∨ i = 1 ∨ i = 2 ∨ i = 3 ∨ i = 4 ∨ i = 5 ∨ i = 6 ∨ i = 7 ∨ i = 8 ∨ i = 9 ∨ i = 10 ∨ i = 11 ∨ i = 12 ∨ i = 13 ∨ i = 14 ∨ i = 15 := by omega
  rcases this with rfl | rfl | rfl | rfl | rfl | rfl | rfl | rfl | rfl | rfl | rfl | rfl | rfl | rfl | rfl | rfl <;> decide +kernel
theorem txt_app (a b : List Int) : txt a ++ txt b = txt (a ++ b) := by
  apply Str.ext'
  rw [Str.cps_append]
  simp [txt]
theorem txt_len (a : List Int) : (txt a).length = a.length := by simp [txt, Str.length]
theorem fr_canon {h₀ h : Heap} {L : Addr} {m : Str → Option Value} (F : Fr h₀ L h m) (ps : List (Str × Value)) (hp : ∀ p ∈ ps, m p.1 = some p.2) : ∃ m', Fr h₀ L h (kstB m' ps) := by
  refine ⟨m, ?_⟩
  have : kstB m ps = m := funext fun z => kstB_eq hp fun _ => rfl
  rw [this]; exact F
section
variable {prog : Program} {w : World} {A : Around} {E : Value → Shared → Prop} {s : Shared} {h₀ : Heap} {L : Addr} {news : Led}
theorem bit_item {value slice : PySem.Expr} {l : Addr} {i : Int} {u t1 t2 : Tok} {n : Nat} {Q : Value → Shared → Prop} (N : News h₀ L s.heap news) (hm : (l, W.listOf #[.str (Str.ofString "0") t1, .str (Str.ofString "1") t2] n) ∈ news) (h0 : 0 ≤ i ∧ i < 2)
    (h : Q (.str (bitS i) (if i = 0 then t1 else t2)) s)
    (hs : subscripted slice false (.ref l) (.int i u) = operate [.ref l, .int i u] (getItem (.ref l) (.int i u)) := by with_unfolding_all rfl) :
    wpAny (model prog w) A (subscriptTail value slice (.ref l) (.int i u)) Q E s := by
  have hl : s.heap.IsList l #[.str (Str.ofString "0") t1, .str (Str.ofString "1") t2] := ⟨_, (N _ hm).1, rfl, n, rfl⟩
  refine tail_any hl.typeIs slot_list_getitem.lookup (wpAny_getItem_list hl h0.1 (by omega) ?_ h) hs
  have : i = 0 ∨ i = 1 := by omega
  rcases this with rfl | rfl <;> rfl
end
structure Grow (b N : Int) (top : Nat) (ds : List Int) (r : Int) : Prop where
  rng : ∀ d ∈ ds, 0 ≤ d ∧ d < b
  ne : ds ≠ []
  num : numOf b ds + r * b ^ ds.length = N
  nn : 0 ≤ r
  lt : r < b ^ (top - ds.length)
  len : ds.length ≤ top
theorem numOf_foldl (b : Int) (ds : List Int) : ∀ a, ds.foldl (fun v d => v * b + d) a = a * b ^ ds.length + numOf b ds := by
  unfold numOf
  induction ds with
  | nil => intro a; simp
  | cons d r ih =>
    intro a
    rw [List.foldl_cons, ih, List.foldl_cons, ih (0 * b + d), List.length_cons, Int.pow_succ]
    rw [Int.zero_mul, Int.zero_add, Int.add_mul, Int.add_assoc, Int.mul_assoc, Int.mul_comm b]
theorem numOf_cons (b d : Int) (ds : List Int) : numOf b (d :: ds) = d * b ^ ds.length + numOf b ds := by
  show (d :: ds).foldl (fun v d => v * b + d) 0 = _
  rw [List.foldl_cons, numOf_foldl, Int.zero_mul, Int.zero_add]
theorem grow_start {b N : Int} {top : Nat} (hb : 2 ≤ b) (h0 : 0 ≤ N) (ht : N < b ^ (top + 1)) : Grow b N (top + 1) [N.fmod b] (N.fdiv b) := by
  have hm := fmod_rng N (b := b) (by omega)
  have e := (fdiv_fmod_facts N b).1
  have hd : N.fdiv b = N / b := Int.fdiv_eq_ediv_of_nonneg _ (by omega)
  refine ⟨fun d hd => by rw [List.mem_singleton.mp hd]; exact hm, List.cons_ne_nil _ _, ?_, ?_, ?_, by simp⟩
  · show 0 * b + N.fmod b + N.fdiv b * b ^ 1 = N
    rw [Int.pow_one]; omega
  · rw [hd]; exact Int.ediv_nonneg h0 (by omega)
  · rw [hd]
    refine Int.ediv_lt_of_lt_mul (by omega) ?_
    show N < b ^ top * b
    rw [← Int.pow_succ]; exact ht
theorem grow_turn {b N r : Int} {top : Nat} {ds : List Int} (hb : 2 ≤ b) (G : Grow b N top ds r) (hr : 0 < r) : Grow b N top (r.fmod b :: ds) (r.fdiv b) := by
  obtain ⟨h1, h2, h3, h4, h5, h6⟩ := G
  have hm := fmod_rng r (b := b) (by omega)
  have e := (fdiv_fmod_facts r b).1
  have hd : r.fdiv b = r / b := Int.fdiv_eq_ediv_of_nonneg _ (by omega)
  have hl : ds.length < top := by
    rcases Nat.lt_or_ge ds.length top with q | q
    · exact q
    · rw [show top - ds.length = 0 by omega] at h5
      simp at h5; omega
  refine ⟨fun d hd => ?_, List.cons_ne_nil _ _, ?_, ?_, ?_, hl⟩
  · rcases List.mem_cons.mp hd with q | q
    · rw [q]; exact hm
    · exact h1 d q
  · rw [numOf_cons, List.length_cons, Int.pow_succ, ← h3]
    have : r.fdiv b * (b ^ ds.length * b) = (r.fdiv b * b) * b ^ ds.length := by rw [Int.mul_comm (b ^ ds.length) b, Int.mul_assoc]
    rw [this]
    have e2 : r * b ^ ds.length = r.fdiv b * b * b ^ ds.length + r.fmod b * b ^ ds.length := by rw [← Int.add_mul, e]
    omega
  · rw [hd]; exact Int.ediv_nonneg h4 (by omega)
  · rw [hd]
    refine Int.ediv_lt_of_lt_mul (by omega) ?_
    rw [← Int.pow_succ, List.length_cons, show Nat.succ (top - (ds.length + 1)) = top - ds.length by omega]; exact h5
theorem grow_end {b N r : Int} {top : Nat} {ds : List Int} (G : Grow b N top ds r) (hr : ¬ 0 < r) : Based b N ds := by
  obtain ⟨h1, h2, h3, h4, h5, h6⟩ := G
  have : r = 0 := by omega
  subst this
  exact ⟨h1, h2, by rw [Int.zero_mul, Int.add_zero] at h3; exact h3⟩
theorem fdiv_less {b r : Int} (hb : 2 ≤ b) (hr : 0 < r) : (r.fdiv b).toNat < r.toNat := by
  rw [Int.fdiv_eq_ediv_of_nonneg _ (by omega)]
  have : r / b < r := Int.ediv_lt_self_of_pos_of_ne_one (by omega) (by omega)
  have : 0 ≤ r / b := Int.ediv_nonneg (by omega) (by omega)
  omega
end
section
theorem fresh_P6 : True := by
  w_top off
  trivial
theorem law_map {h₀ h : Heap} {L D : Addr} {m : Str → Option Value} {N : Int} {tN td th tb tr : Tok} (F : Fr h₀ L h m) (hN : 0 ≤ N ∧ N < 1000000000000) (e1 : m (Str.ofString "cells") = some (.ref D)) (e2 : m (Str.ofString "number") = some (.int N tN))
    (e3 : m (Str.ofString "digits") = some (.str (Str.ofString "0123456789abcdef") td)) (e4 : m (Str.ofString "hexadecimal") = some (.str (Txt.item (Str.ofString "0123456789abcdef") (N.fmod 16)) th))
    (e5 : m (Str.ofString "binary") = some (.str (bitS (N.fmod 2)) tb)) (e6 : m (Str.ofString "rest") = some (.int (N.fdiv 16) tr)) :
    ∃ (N : Int) (tN td th tb tr : Tok) (m' : Str → Option Value), 0 ≤ N ∧ N < 1000000000000 ∧ Fr h₀ L h (kstB m' [(Str.ofString "cells", .ref D), (Str.ofString "number", .int N tN), (Str.ofString "digits", .str (Str.ofString "0123456789abcdef") td),
      (Str.ofString "hexadecimal", .str (txt ([N.fmod 16].map digCode)) th), (Str.ofString "binary", .str (txt ([N.fmod 2].map digCode)) tb), (Str.ofString "rest", .int (N.fdiv 16) tr)]) := by
  rw [hex_txt (fmod_rng N (by decide))] at e4
  rw [bitS_txt (fmod_rng N (by decide))] at e5
  obtain ⟨m', F'⟩ := fr_canon F [(Str.ofString "cells", .ref D), (Str.ofString "number", .int N tN), (Str.ofString "digits", .str (Str.ofString "0123456789abcdef") td),
      (Str.ofString "hexadecimal", .str (txt ([N.fmod 16].map digCode)) th), (Str.ofString "binary", .str (txt ([N.fmod 2].map digCode)) tb), (Str.ofString "rest", .int (N.fdiv 16) tr)] (by
    intro p hp
    simp only [List.mem_cons, List.not_mem_nil, or_false] at hp
    rcases hp with rfl | rfl | rfl | rfl | rfl | rfl
    · exact e1
    · exact e2
    · exact e3
    · exact e4
    · exact e5
    · exact e6)
  exact ⟨N, tN, td, th, tb, tr, m', hN.1, hN.2, F'⟩
theorem cells_len {A : List Int} {n : Nat} (h : (n : Int) = 5) (e : (List.replicate (Int.toNat 5) [(0 : Int)]).flatten.length = n) : 5 ≤ (A ++ (List.replicate (Int.toNat 5) [(0 : Int)]).flatten).length := by
  rw [List.length_append]; omega
theorem pow12 : (10 : Int) ^ Int.toNat 12 = 1000000000000 := by decide
theorem num_rng (x : Int) : 0 ≤ x.fmod (10 ^ Int.toNat 12) ∧ x.fmod (10 ^ Int.toNat 12) < 1000000000000 := by
  have := fmod_rng x (b := 10 ^ Int.toNat 12) (by decide)
  rw [pow12] at this ⊢
  exact this
theorem hex_more {ds : List Int} {r : Int} : Txt.item (Str.ofString "0123456789abcdef") (r.fmod 16) ++ txt (ds.map digCode) = txt ((r.fmod 16 :: ds).map digCode) := by
  rw [hex_txt (fmod_rng r (by decide)), txt_app]; rfl
theorem bin_more {ds : List Int} {r : Int} : bitS (r.fmod 2) ++ txt (ds.map digCode) = txt ((r.fmod 2 :: ds).map digCode) := by
  rw [bitS_txt (fmod_rng r (by decide)), txt_app]; rfl
theorem grow_len {b N r : Int} {top : Nat} {ds : List Int} (G : Grow b N top ds r) : (txt (ds.map digCode)).length ≤ top := by
  rw [txt_len, List.length_map]; exact G.len
end
section
theorem fresh_P7 : True := by
  w_top off
  trivial
theorem pow40 : (2 : Int) ^ 40 = 1099511627776 := by decide +kernel
theorem start_bin {N : Int} (h0 : 0 ≤ N) (h1 : N < 1000000000000) : Grow 2 N 40 [N.fmod 2] (N.fdiv 2) := by
  refine grow_start (top := 39) (by omega) h0 ?_
  show N < (2 : Int) ^ 40
  rw [pow40]; omega
theorem bit_len (i : Int) : (bitS i).length = 1 := by
  unfold bitS; split <;> decide +kernel
theorem bit_len' (i : Int) : 1 ≤ (bitS i).length ∧ (bitS i).length ≤ 1 := by rw [bit_len]; omega
end
section
open PySem.NumText PySem.W.KIN
theorem fresh_P8 : True := by
  w_top off
  trivial
def dueV : Option Int → Tok → Value
  | some v, t => .int v t
  | none, _ => .none
def RowRef (N : Int) (news : Led) (v : Value) : Prop := ∃ (a : Addr) (X : List Int) (due : Option Int) (t t' : Tok), v = .ref a ∧ (a, { cls := Value.type "tuple", data := Data.seq #[Value.str (txt X) t, dueV due t'] }) ∈ news ∧ RowX N X due ∧ X.length ≤ 60
theorem row_ref {N : Int} {news : Led} {a : Addr} {x : Str} {t : Tok} {d : Value} (X : List Int) (due : Option Int) (t' : Tok) (hm : (a, { cls := Value.type "tuple", data := Data.seq #[Value.str x t, d] }) ∈ news) (e : x = txt X) (e2 : d = dueV due t') (hr : RowX N X due) (hl : X.length ≤ 60) : RowRef N news (.ref a) := by
  subst e; subst e2; exact ⟨a, X, due, t, t', rfl, hm, hr, hl⟩
def InMenu (M : List (List Int)) (v : Value) : Prop := ∃ (K : List Int) (t : Tok), v = .str (txt K) t ∧ K ∈ M
theorem menu_one {M : List (List Int)} {x : Str} {t : Tok} (K : List Int) (e : x = txt K) (h : K ∈ M) : InMenu M (.str x t) := ⟨K, t, by rw [e], h⟩
section
variable {prog : Program} {w : World} {A : Around} {E : Value → Shared → Prop} {s : Shared} {h₀ : Heap} {L : Addr} {news : Led}
theorem menu_item {value slice : PySem.Expr} {l : Addr} {i : Int} {u : Tok} {vs : List Value} {n : Nat} {Q : Value → Shared → Prop} (P : Value → Prop) (N : News h₀ L s.heap news) (hm : (l, W.listOf vs.toArray n) ∈ news) (h0 : 0 ≤ i ∧ i < vs.length) (hb : vs.length ≤ 1000)
    (hP : ∀ v ∈ vs, P v) (h : ∀ v, P v → Q v s)
    (hs : subscripted slice false (.ref l) (.int i u) = operate [.ref l, .int i u] (getItem (.ref l) (.int i u)) := by with_unfolding_all rfl) :
    wpAny (model prog w) A (subscriptTail value slice (.ref l) (.int i u)) Q E s := by
  have hl : s.heap.IsList l vs.toArray := ⟨_, (N _ hm).1, rfl, n, rfl⟩
  have hi : i.toNat < vs.length := by omega
  exact tail_any hl.typeIs slot_list_getitem.lookup (wpAny_getItem_list hl h0.1 (by omega) (by simp [hi]) (h _ (hP _ (List.getElem_mem hi)))) hs
theorem row_item {N : Int} {value slice : PySem.Expr} {l : Addr} {i : Int} {u : Tok} {vs : List Value} {n : Nat} {Q : Value → Shared → Prop} (F : News h₀ L s.heap news) (hm : (l, W.listOf vs.toArray n) ∈ news) (h0 : 0 ≤ i ∧ i < vs.length) (hb : vs.length ≤ 1000)
    (hP : ∀ v ∈ vs, RowRef N news v) (h : ∀ v, RowRef N news v → Q v s)
    (hs : subscripted slice false (.ref l) (.int i u) = operate [.ref l, .int i u] (getItem (.ref l) (.int i u)) := by with_unfolding_all rfl) :
    wpAny (model prog w) A (subscriptTail value slice (.ref l) (.int i u)) Q E s := menu_item (RowRef N news) F hm h0 hb hP h hs
end
theorem two_led {h₀ h : Heap} {L a D : Addr} {o : Obj} {n : Nat} {WS : List Value} {CL : List Int} {news : Led} (N : News h₀ L h news) (_hCI : IntsAre WS CL) (hm : (a, o) ∈ news) (hc : (D, W.listOf WS.toArray n) ∈ news) : News h₀ L h [(a, o), (D, W.listOf WS.toArray n)] :=
  cb_drop N (by
    intro p hp
    simp only [List.mem_cons, List.not_mem_nil, or_false] at hp
    rcases hp with rfl | rfl
    · exact hm
    · exact hc)
theorem one_led {h₀ h : Heap} {L D : Addr} {n : Nat} {WS : List Value} {CL : List Int} {news : Led} (N : News h₀ L h news) (_hCI : IntsAre WS CL) (hc : (D, W.listOf WS.toArray n) ∈ news) : News h₀ L h [(D, W.listOf WS.toArray n)] :=
  cb_drop N (by
    intro p hp
    rw [List.mem_singleton.mp hp]
    exact hc)
theorem numOf_nat (cs : List Nat) (h : AllDigits cs) : ∀ a : Nat, (cs.map fun c => ((c - 48 : Nat) : Int)).foldl (fun v d => v * 10 + d) (a : Int) = ((cs.foldl (fun acc c => acc * 10 + (c - 48)) a : Nat) : Int) := by
  induction cs with
  | nil => intro a; rfl
  | cons c r ih =>
    intro a
    rw [List.map_cons, List.foldl_cons, List.foldl_cons, ← ih h.tail]
    congr 1
theorem dec_txt {N : Int} (h0 : 0 ≤ N) (h1 : N < 1000000000000) : ∃ ds : List Int, Based 10 N ds ∧ Str.ofString (toString N) = txt (ds.map digCode) ∧ ds.length ≤ 12 := by
  obtain ⟨m, rfl⟩ := Int.eq_ofNat_of_zero_le h0
  have hd : AllDigits ((Nat.toDigits 10 m).map Char.toNat) := by
    intro c hc
    obtain ⟨ch, hch, e⟩ := List.mem_map.mp hc
    have r := digit_range (Nat.isDigit_of_mem_toDigits (by decide) (by decide) hch)
    rw [← e]
    exact r
  have hv := val_back m
  have hs := signs_num m
  have hl : (Nat.toDigits 10 m).length ≤ 12 := by
    have e := (Nat.length_repr_le_iff (n := m) (k := 12) (by decide)).mpr (by omega)
    rwa [← String.length_toList, Nat.toList_repr] at e
  have hne : Nat.toDigits 10 m ≠ [] := by
    intro e
    have := toDigits_len_ge 10 m
    rw [e] at this
    exact absurd this (by decide)
  generalize hcs : (Nat.toDigits 10 m).map Char.toNat = cs at hd hv hs
  refine ⟨cs.map fun c => ((c - 48 : Nat) : Int), ⟨?_, ?_, ?_⟩, ?_, ?_⟩
  · intro d hdm
    obtain ⟨c, hc, e⟩ := List.mem_map.mp hdm
    have := hd c hc
    omega
  · rw [← hcs]; simp [hne]
  · show (cs.map fun c => ((c - 48 : Nat) : Int)).foldl (fun v d => v * 10 + d) ((0 : Nat) : Int) = _
    rw [numOf_nat cs hd]; exact congrArg _ hv
  · apply Str.ext'
    rw [← Array.toList_inj, hs]
    show cs = ((cs.map fun c => ((c - 48 : Nat) : Int)).map digCode).map Int.toNat
    rw [List.map_map, List.map_map]
    refine (List.map_id _).symm.trans (List.map_congr_left fun c hc => ?_)
    have := hd c hc
    show c = (digCode ((c - 48 : Nat) : Int)).toNat
    rw [code_dec (by omega)]; omega
  · rw [List.length_map, ← hcs, List.length_map]; exact hl
theorem based_00 {N : Int} {ds : List Int} (h : Based 10 N ds) : Based 10 N (0 :: 0 :: ds) := by
  obtain ⟨h1, h2, h3⟩ := h
  refine ⟨fun d hd => ?_, List.cons_ne_nil _ _, by rw [← h3]; rfl⟩
  rcases List.mem_cons.mp hd with q | hd
  · omega
  · rcases List.mem_cons.mp hd with q | hd
    · omega
    · exact h1 d hd
end
section
theorem fresh_P9 : True := by
  w_top off
  trivial
def IfPost (h₀ : Heap) (L : Addr) (s0 : Shared) (S F X B : List Int) (due : Option Int) (f : Flow) (s' : Shared) : Prop :=
  f = .next ∧ ∃ (h' : Heap) (tk' t' tS tF tX tB : Tok) (m' : Str → Option Value), s' = { s0 with heap := h', toks := tk' } ∧
    Fr h₀ L h' (kstB m' [(Str.ofString "sign", .str (txt S) tS), (Str.ofString "front", .str (txt F) tF), (Str.ofString "spelled", .str (txt X) tX), (Str.ofString "behind", .str (txt B) tB), (Str.ofString "due", dueV (resOf S due B) t')]) ∧ News h₀ L h' []
theorem if_end {h₀ h : Heap} {L : Addr} {s0 : Shared} {S F X B : List Int} {due : Option Int} {m : Str → Option Value} {v : Value} {tk t' tS tF tX tB : Tok} {news : Led} (Fm : Fr h₀ L h m) (_N : News h₀ L h news)
    (e1 : m (Str.ofString "sign") = some (.str (txt S) tS)) (e2 : m (Str.ofString "front") = some (.str (txt F) tF)) (e3 : m (Str.ofString "spelled") = some (.str (txt X) tX)) (e4 : m (Str.ofString "behind") = some (.str (txt B) tB))
    (e5 : m (Str.ofString "due") = some v) (e6 : v = dueV (resOf S due B) t') : IfPost h₀ L s0 S F X B due .next { s0 with heap := h, toks := tk } := by
  subst e6
  obtain ⟨m', F'⟩ := fr_canon Fm [(Str.ofString "sign", .str (txt S) tS), (Str.ofString "front", .str (txt F) tF), (Str.ofString "spelled", .str (txt X) tX), (Str.ofString "behind", .str (txt B) tB), (Str.ofString "due", dueV (resOf S due B) t')] (by
    intro p hp
    simp only [List.mem_cons, List.not_mem_nil, or_false] at hp
    rcases hp with rfl | rfl | rfl | rfl | rfl
    · exact e1
    · exact e2
    · exact e3
    · exact e4
    · exact e5)
  exact ⟨rfl, h, tk, t', tS, tF, tX, tB, m', rfl, F', fun p hp => absurd hp List.not_mem_nil⟩
section
variable {prog : Program} {w : World} {A : Around} {E : Value → Shared → Prop} {s : Shared} {h₀ : Heap} {L : Addr}
theorem if_split {t : Sem Flow} {Q : Flow → Shared → Prop} {m : Str → Option Value} (S F X B : List Int) (due : Option Int) (_F : Fr h₀ L s.heap m)
    (iw : wpAny (model prog w) A t (IfPost h₀ L s S F X B due) (fun _ _ => False) s)
    (ir : ∀ (h' : Heap) (tk' t' tS tF tX tB : Tok) (m' : Str → Option Value), Fr h₀ L h' (kstB m' [(Str.ofString "sign", .str (txt S) tS), (Str.ofString "front", .str (txt F) tF), (Str.ofString "spelled", .str (txt X) tX), (Str.ofString "behind", .str (txt B) tB), (Str.ofString "due", dueV (resOf S due B) t')]) → News h₀ L h' [] → Q .next { s with heap := h', toks := tk' }) :
    wpAny (model prog w) A t Q E s := by
  refine wpAny_mono iw ?_ (fun _ _ h => h.elim)
  rintro f s' ⟨rfl, h', tk', t', tS, tF, tX, tB, m', rfl, F', N'⟩
  exact ir h' tk' t' tS tF tX tB m' F' N'
end
theorem sign_gap {S : List Int} (h : S ∈ signs4) : txt S = Str.ofString "- " ↔ S = [45, 32] := by
  simp only [signs4, List.mem_cons, List.not_mem_nil, or_false] at h
  rcases h with rfl | rfl | rfl | rfl <;> decide +kernel
theorem sign_long {S : List Int} (h : S ∈ signs4) : txt S = Str.ofString "-/**/" ↔ S = [45, 47, 42, 42, 47] := by
  simp only [signs4, List.mem_cons, List.not_mem_nil, or_false] at h
  rcases h with rfl | rfl | rfl | rfl <;> decide +kernel
theorem sign_neg {S : List Int} (h : S ∈ signs4) : txt S = Str.ofString "-" ↔ S = [45] := by
  simp only [signs4, List.mem_cons, List.not_mem_nil, or_false] at h
  rcases h with rfl | rfl | rfl | rfl <;> decide +kernel
theorem beh_nil {B : List Int} (h : B ∈ behinds) : txt B = Str.ofString "" ↔ B = [] := by
  simp only [behinds, List.mem_cons, List.not_mem_nil, or_false] at h
  rcases h with rfl | rfl | rfl | rfl | rfl | rfl <;> decide +kernel
theorem res_gap {S B : List Int} {due : Option Int} (h : S ∈ signs4) (e : ([Str.ofString "- ", Str.ofString "-/**/"].any fun x => x == txt S) = true) : resOf S due B = none := by
  simp only [List.any_cons, List.any_nil, Bool.or_false, Bool.or_eq_true, beq_iff_eq] at e
  unfold resOf
  rcases e with e | e
  · rw [if_pos (.inl ((sign_gap h).mp e.symm))]
  · rw [if_pos (.inr (.inl ((sign_long h).mp e.symm)))]
theorem res_beh {S B : List Int} {due : Option Int} (h : B ∈ behinds) (e : (txt B != Str.ofString "") = true) : resOf S due B = none := by
  unfold resOf
  rw [if_pos (.inr (.inr fun q => (bne_iff_ne.mp e) ((beh_nil h).mpr q)))]
theorem res_cond {S B : List Int} (hS : S ∈ signs4) (hB : B ∈ behinds) (e : ([Str.ofString "- ", Str.ofString "-/**/"].any fun x => x == txt S) = false) (e2 : (txt B != Str.ofString "") = false) : ¬ (S = [45, 32] ∨ S = [45, 47, 42, 42, 47] ∨ B ≠ []) := by
  simp only [List.any_cons, List.any_nil, Bool.or_false, Bool.or_eq_false_iff, beq_eq_false_iff_ne, ne_eq] at e
  intro q
  rcases q with q | q | q
  · exact e.1 ((sign_gap hS).mpr q).symm
  · exact e.2 ((sign_long hS).mpr q).symm
  · refine q ((beh_nil hB).mp ?_)
    by_cases hc : txt B = Str.ofString ""
    · exact hc
    · rw [bne_iff_ne.mpr hc] at e2; exact absurd e2 (by decide)
theorem res_neg {S B : List Int} {d : Int} (hS : S ∈ signs4) (hB : B ∈ behinds) (e : ([Str.ofString "- ", Str.ofString "-/**/"].any fun x => x == txt S) = false) (e2 : (txt B != Str.ofString "") = false) (e3 : (txt S == Str.ofString "-") = true) : resOf S (some d) B = some (-d) := by
  unfold resOf
  rw [if_neg (res_cond hS hB e e2), if_pos ((sign_neg hS).mp (beq_iff_eq.mp e3))]
  show some ((-1) * d) = some (-d)
  rw [Int.neg_one_mul]
theorem res_plain {S B : List Int} {due : Option Int} (hS : S ∈ signs4) (hB : B ∈ behinds) (e : ([Str.ofString "- ", Str.ofString "-/**/"].any fun x => x == txt S) = false) (e2 : (txt B != Str.ofString "") = false) (e3 : (txt S == Str.ofString "-") = false) : resOf S due B = due := by
  unfold resOf
  rw [if_neg (res_cond hS hB e e2), if_neg (fun q => by rw [beq_iff_eq.mpr ((sign_neg hS).mpr q)] at e3; exact absurd e3 (by decide))]
theorem menu_len {S F B : List Int} (hS : S ∈ signs4) (hF : F ∈ fronts) (hB : B ∈ behinds) : (txt S).length ≤ 10 ∧ (txt F).length ≤ 10 ∧ (txt B).length ≤ 10 := by
  simp only [signs4, behinds, fronts, List.mem_cons, List.not_mem_nil, or_false] at hS hF hB
  refine ⟨?_, ?_, ?_⟩
  · rcases hS with rfl | rfl | rfl | rfl <;> decide
  · rcases hF with rfl | rfl | rfl | rfl | rfl <;> decide
  · rcases hB with rfl | rfl | rfl | rfl | rfl | rfl <;> decide
end
section
theorem fresh_PA : True := by
  w_top off
  trivial
theorem dig_ascii {b : Int} {ds : List Int} (hb : b ≤ 16) (h : ∀ d ∈ ds, 0 ≤ d ∧ d < b) : ∀ c ∈ ds.map digCode, 0 ≤ c ∧ c < 128 := by
  intro c hc
  obtain ⟨d, hd, rfl⟩ := List.mem_map.mp hc
  have := h d hd
  unfold digCode
  split <;> omega
theorem row_ascii {N : Int} {X : List Int} {due : Option Int} (h : RowX N X due) : ∀ c ∈ X, 0 ≤ c ∧ c < 128 := by
  cases h with
  | dec h => exact dig_ascii (by omega) h.rng
  | hex h =>
    intro c hc
    rcases List.mem_cons.mp hc with q | hc
    · omega
    · rcases List.mem_cons.mp hc with q | hc
      · omega
      · exact dig_ascii (by omega) h.rng c hc
  | bin h =>
    intro c hc
    rcases List.mem_cons.mp hc with q | hc
    · omega
    · rcases List.mem_cons.mp hc with q | hc
      · omega
      · exact dig_ascii (by omega) h.rng c hc
  | _ => decide
theorem all_ascii {N : Int} {S F X B : List Int} {due : Option Int} (hS : S ∈ signs4) (hF : F ∈ fronts) (hB : B ∈ behinds) (h : RowX N X due) : ∀ c ∈ F ++ (S ++ (X ++ B)), 0 ≤ c ∧ c < 128 := by
  have a1 : ∀ c ∈ S, 0 ≤ c ∧ c < 128 := by
    simp only [signs4, List.mem_cons, List.not_mem_nil, or_false] at hS
    rcases hS with rfl | rfl | rfl | rfl <;> decide
  have a2 : ∀ c ∈ F, 0 ≤ c ∧ c < 128 := by
    simp only [fronts, List.mem_cons, List.not_mem_nil, or_false] at hF
    rcases hF with rfl | rfl | rfl | rfl | rfl <;> decide
  have a3 : ∀ c ∈ B, 0 ≤ c ∧ c < 128 := by
    simp only [behinds, List.mem_cons, List.not_mem_nil, or_false] at hB
    rcases hB with rfl | rfl | rfl | rfl | rfl | rfl <;> decide
  intro c hc
  simp only [List.mem_append] at hc
  rcases hc with q | q | q | q
  · exact a2 c q
  · exact a1 c q
  · exact row_ascii h c q
  · exact a3 c q
theorem txt4 (F S X B : List Int) : txt F ++ txt S ++ txt X ++ txt B = txt (F ++ (S ++ (X ++ B))) := by
  rw [txt_app, txt_app, txt_app, List.append_assoc, List.append_assoc]
theorem txt_ascii {cs : List Int} (h : ∀ c ∈ cs, 0 ≤ c ∧ c < 128) : (txt cs).cps.all (· < 128) = true := by
  rw [Array.all_eq_true']
  intro k hk
  have hk' : k ∈ cs.map Int.toNat := by simpa [txt] using hk
  obtain ⟨c, hc, rfl⟩ := List.mem_map.mp hk'
  have := h c hc
  simp only [decide_eq_true_eq]; omega
theorem txt_back {cs : List Int} (h : ∀ c ∈ cs, 0 ≤ c ∧ c < 128) : (txt cs).cps.toList.map Int.ofNat = cs := by
  show (cs.map Int.toNat).map Int.ofNat = cs
  rw [List.map_map]
  refine (List.map_congr_left fun c hc => ?_).trans (List.map_id _)
  have := h c hc
  show Int.ofNat c.toNat = c
  exact Int.toNat_of_nonneg this.1
theorem len4 {S F X B : List Int} (z1 : (txt S).length ≤ 10) (z2 : (txt F).length ≤ 10) (z3 : (txt B).length ≤ 10) (z4 : X.length ≤ 60) : (F ++ (S ++ (X ++ B))).length ≤ 90 := by
  rw [txt_len] at z1 z2 z3
  simp only [List.length_append]; omega
section
variable {w : World} {k : Nat} {f : Addr} {args : List Value} {news : Led} {post : Value → Led → Prop}
  {dp un : Nat} {gd : Option (List Code)} {cn : Str} {cS : Scope} {a : Addr} {ccd : Value} {A₀ : Around} {base h₀ : Heap} {L : Addr} {m : Str → Option Value} {s : Shared}
  {pr : Program} {loose : List Str} {mean : ExcName → Option Value} {mg mb : Str → Option Value} {Q E : Value → Shared → Prop}
theorem text_use {F S X B : List Int} {N : Int} {due : Option Int} {tx : Tok} (hS : S ∈ signs4) (hF : F ∈ fronts) (hB : B ∈ behinds) (hR : RowX N X due) (hX : X.length ≤ 60)
    (Fm : Fr h₀ L s.heap m) (KX : (hd.heap_39 w.params).In h₀) (Nw : News h₀ L s.heap []) (T : Top pr loose mean mg mb h₀) (hk : cS.kind = .function) (hd : dp + 2 < recursionLimit) (hu : un + 8 * 2 < cLine)
    (ret : ∀ l vs h' tk', Fr h₀ L h' m → News h₀ L h' [(l, lstO vs vs.length)] → IntsAre vs (F ++ (S ++ (X ++ B))) → Q (.ref l) { s with heap := h', toks := tk' }) :
    wpAny (model PySem.Challenge.rw_rr0020_01.row.prog w) (ktrTop dp un gd cn cS L a ccd [] []) (call (.ref 114) [.str (txt F ++ txt S ++ txt X ++ txt B) tx]) Q E s := by
  have hc := all_ascii hS hF hB hR
  obtain ⟨z1, z2, z3⟩ := menu_len hS hF hB
  have hl := len4 z1 z2 z3 hX
  rw [txt4]
  refine calls_use (below_caller _) Fm KX Nw T hk (c_text_codes (txt_ascii hc) (by have := txt_len (F ++ (S ++ (X ++ B))); unfold Str.length at this; omega)) hd hu ?_
  rintro r h' tk' n F' N' ⟨l, vs, rfl, rfl, hI, _⟩
  rw [txt_back hc] at hI
  exact ret l vs h' tk' F' N' hI
theorem read_use {F S X B : List Int} {N : Int} {due : Option Int} {l : Addr} {vs : List Value} {ln : Nat} (hS : S ∈ signs4) (hF : F ∈ fronts) (hB : B ∈ behinds) (hR : RowX N X due) (hX : X.length ≤ 60) (hI : IntsAre vs (F ++ (S ++ (X ++ B))))
    (Fm : Fr h₀ L s.heap m) (KX : (hd.heap_39 w.params).In h₀) (Nw : News h₀ L s.heap [(l, lstO vs ln)]) (T : Top pr loose mean mg mb h₀) (hk : cS.kind = .function) (hd : dp + 160 < recursionLimit) (hu : un + 8 * 160 < cLine)
    (ret : ∀ r h' tk', Fr h₀ L h' m → Means (resOf S due B) r → Q r { s with heap := h', toks := tk' }) :
    wpAny (model PySem.Challenge.rw_rr0020_01.row.prog w) (ktrTop dp un gd cn cS L a ccd [] []) (call (.ref 281) [.ref l]) Q E s := by
  have hc := all_ascii hS hF hB hR
  obtain ⟨z1, z2, z3⟩ := menu_len hS hF hB
  have hl := len4 z1 z2 z3 hX
  have C := rn_all (w := w) hF hS hR hB l vs ln [] hI hc (by omega)
  exact C _ _ _ _ _ _ _ _ _ _ _ _ _ _ _ _ _ _ _ _ (below_caller _) Fm KX Nw T KX T hk hd hu (fun r h' tk' n F' N' hm => ret r h' tk' F' hm)
end
end
section
theorem fresh_PB : True := by
  w_top off
  trivial
set_option maxRecDepth 100000 in
set_option maxHeartbeats 4000000 in
theorem post_true (ws : List Int) (_hs : Spec.Shape.int.list.has (PyData.list (List.map PyData.int ws)) = true) :
    PySem.Challenge.rw_rr0020_01.row.claim.post [ofPy (PyData.list (List.map PyData.int ws))] (WData.bool true) [ofPy (PyData.list (List.map PyData.int ws))] = true := by
  refine' postW_of (by wrow_shape) (by wtm_val) ?_
  rfl
end
section
theorem fresh_LawO : True := by
  w_top off
  trivial
local macro_rules | `(tactic| walk_at "my_same") => `(tactic| (intro z h2 h3; (try simp only [List.forall_mem_cons, List.not_mem_nil, false_implies, implies_true, and_true, ne_eq] at h2); (try simp only [List.contains_cons, List.contains_nil, Bool.or_false, Bool.or_eq_false_iff, beq_eq_false_iff_ne, ne_eq] at h3); (simp [kstB, h2, h3]; done)))
local macro_rules | `(tactic| walk_at "my_steps") => `(tactic| repeat' (first | (k_unfold; (try dsimp only)) | (k_end; wrow_close) | ((fail_if_success (with_reducible show wpAny _ _ (exec (Stmt.While _ _ _ _) _) _ _ _)); walk1) | ((fail_if_success (with_reducible show wpAny _ _ (exec (Stmt.While _ _ _ _) _) _ _ _)); dsimp only; walk1) | ((fail_if_success (with_reducible show wpAny _ _ (exec (Stmt.While _ _ _ _) _) _ _ _)); leave1; walk_say "STEP leave1"; try dsimp only) | fail "no step"))
local macro_rules | `(tactic| walk_at "subscriptTail") => `(tactic| (k_here; (with_reducible show wpAny _ _ (subscriptTail _ _ (Value.ref _) (Value.int _ _)) _ _ _); k_dflt (refine' bit_item ?N ?m ?h0 ?_ ?hs; (case N => k_asm); (case m => k_mem); (case h0 => exact fmod_rng _ (by decide)); (case hs => with_unfolding_all rfl); k_whole)))
local macro_rules | `(tactic| walk_at "tup_step") => `(tactic| ((first | (with_reducible show wpAny _ _ (newTuple _) _ _ _) | (with_reducible show wpAny _ _ (newList _) _ _ _)); walk1; (try dsimp only)))
local macro_rules | `(tactic| walk_at "my_steps3") => `(tactic| repeat' ((fail_if_success (with_reducible show wpAny _ _ (subscriptTail _ _ (Value.ref _) (Value.int (Int.fmod _ _) _)) _ _ _)); (walk_at "one_step")))
local macro_rules | `(tactic| walk_at "my_mem") => `(tactic| ((repeat (first | exact List.Mem.head _ | apply List.Mem.tail)); done))
local macro_rules | `(tactic| walk_at "to_if") => `(tactic| repeat' ((fail_if_success (with_reducible show wpAny _ _ (exec (Stmt.If _ _ _ _) _) _ _ _)); (walk_at "one_step")))
local macro_rules | `(tactic| walk_at "to_post") => `(tactic| repeat' ((fail_if_success (with_reducible show IfPost _ _ _ _ _ _ _ _ _ _)); (walk_at "one_step")))
local macro_rules | `(tactic| walk_at "to_call") => `(tactic| repeat' ((fail_if_success (with_reducible show wpAny _ _ (call (Value.ref _) _) _ _ _)); (walk_at "one_step")))
local macro_rules | `(tactic| walk_at "one_step") => `(tactic| (first | (k_unfold; (try dsimp only)) | (k_end; wrow_close) | walk_at "tup_step" | walk1 | (dsimp only; walk1) | (leave1; walk_say "STEP leave1"; try dsimp only) | fail "no step"))
local macro_rules | `(tactic| walk_at "my_steps2") => `(tactic| repeat' (first | ((fail_if_success (with_reducible show wpAny _ _ (execs (Stmt.Assign _ (Expr.List _ _) _ :: _) _) _ _ _)); (fail_if_success (with_reducible show wpAny _ _ (exec (Stmt.Assign _ (Expr.List _ _) _) _) _ _ _)); (k_unfold; (try dsimp only))) | (k_end; wrow_close) | ((fail_if_success (with_reducible show wpAny _ _ (execs (Stmt.Assign _ (Expr.List _ _) _ :: _) _) _ _ _)); (fail_if_success (with_reducible show wpAny _ _ (exec (Stmt.Assign _ (Expr.List _ _) _) _) _ _ _)); (fail_if_success (with_reducible show wpAny _ _ (exec (Stmt.While _ _ _ _) _) _ _ _)); walk1) | ((fail_if_success (with_reducible show wpAny _ _ (execs (Stmt.Assign _ (Expr.List _ _) _ :: _) _) _ _ _)); (fail_if_success (with_reducible show wpAny _ _ (exec (Stmt.Assign _ (Expr.List _ _) _) _) _ _ _)); (fail_if_success (with_reducible show wpAny _ _ (exec (Stmt.While _ _ _ _) _) _ _ _)); dsimp only; walk1) | ((fail_if_success (with_reducible show wpAny _ _ (execs (Stmt.Assign _ (Expr.List _ _) _ :: _) _) _ _ _)); (fail_if_success (with_reducible show wpAny _ _ (exec (Stmt.Assign _ (Expr.List _ _) _) _) _ _ _)); (fail_if_success (with_reducible show wpAny _ _ (exec (Stmt.While _ _ _ _) _) _ _ _)); leave1; walk_say "STEP leave1"; try dsimp only) | fail "no step"))
set_option maxRecDepth 100000 in
set_option maxHeartbeats 8000000 in
theorem t1 : PySem.Challenge.rw_rr0020_01.Holds := Mine.hd (by
  w_on; w_strict (
    delta hd.law_d; k_fill
    intro q9w q9s q9t q9mg q9mb q9G q9Y q9fa q9o q9pm q9cd q9doc q9dV q9kV q9ho q9hd q9hcd q9hD q9hmg q9hg q9args q9vals q9as q9hpre q9hlay q9hrd q9hwl q9hlo
    have q9KX := kIn_of q9Y
    refine Ground.open q9G ?_
    intro q9T q9B q9D q9TE q9TW
    clear q9hmg
    wrow_args q9hpre q9hlay q9hrd q9hwl q9hlo
    refine enter_call ?_
    w_top on
    refine codeAny_mono ?_ (fun _ _ g => GoodW.toG g)
    have q9K0 := below_caller (Top.heap q9T)
    w_call any q9ho q9hd q9hcd q9hD q9T q9F
    clear q9hd
    k_drop
    (all_goals try k_fold); walk_at "my_steps"
    rename Fr _ _ _ _ => F1
    rename News _ _ _ _ => N1
    obtain ⟨N, tN, td, th, tb, tr, m', hN0, hN1, F2⟩ := law_map F1 (num_rng _) rfl rfl rfl rfl rfl rfl
    rename IntsAre _ (_ ++ _) => hCI
    rename (List.replicate _ [(0 : Int)]).flatten.length = _ => hC1
    rename (_ → _ = _ * (5 : Int)) => hC2
    obtain ⟨CL, hCL, hCI⟩ : ∃ CL : List Int, 5 ≤ CL.length ∧ IntsAre _ CL := ⟨_, cells_len (by have := hC2 (by decide); omega) hC1, hCI⟩
    have N2 := cb_drop (news := [(_, W.listOf _ 0)]) N1 (fun p hp => by rw [List.mem_singleton.mp hp]; exact .tail _ (.head _))
    clear F1 N1
    refine' ksw_while (σ := List Int × Int × Tok × Tok) (fun _ => [(_, W.listOf _ 0)]) (fun c => [(Str.ofString "hexadecimal", .str (txt (c.1.map digCode)) c.2.2.1), (Str.ofString "rest", .int c.2.1 c.2.2.2)]) (fun _ => True) [] (fun c => Grow 16 N 10 c.1 c.2.1) (fun c => c.2.1.toNat) ([N.fmod 16], N.fdiv 16, th, tr) F2 N2 trivial ?nm (grow_start (top := 9) (by decide) hN0 (by omega)) ?tn
    case nm =>
      intro z hz
      simp only [List.mem_cons, List.not_mem_nil, or_false] at hz
      rcases hz with rfl | rfl <;> rfl
    case tn =>
    rintro ⟨ds, r, u1, u2⟩ u h9 tk9 - hG F9 N9
    dsimp only at hG F9 N9
    have hlen := grow_len hG
    walk_at "my_steps"
    · rename News _ _ _ _ => N3
      rename Fr _ _ _ _ => F3
      refine' ksw_end (r.fmod 16 :: ds, r.fdiv 16, _, _) F3 N3 (fun _ h => h) trivial ?nm (by walk_at "my_same") (grow_turn (by decide) hG (by omega)) (fdiv_less (by decide) (by omega))
      case nm =>
      intro y hy
      simp only [List.mem_cons, List.not_mem_nil, or_false] at hy
      rcases hy with rfl | rfl
      · dsimp only
        rw [← hex_more]; rfl
      · rfl
    · rename News _ _ _ _ => N3
      rename Fr _ _ _ _ => F3
      have hH := grow_end hG (by omega)
      refine' ksw_while (σ := List Int × Int × Tok × Tok) (fun _ => [(_, W.listOf _ 0)]) (fun c => [(Str.ofString "binary", .str (txt (c.1.map digCode)) c.2.2.1), (Str.ofString "rest", .int c.2.1 c.2.2.2)]) (fun _ => True) [] (fun c => Grow 2 N 40 c.1 c.2.1) (fun c => c.2.1.toNat) ([N.fmod 2], N.fdiv 2, _, _) F3 N3 trivial ?nm2 (start_bin hN0 hN1) ?tn2
      case nm2 =>
        intro z hz
        simp only [List.mem_cons, List.not_mem_nil, or_false] at hz
        rcases hz with rfl | rfl <;> rfl
      case tn2 =>
      rintro ⟨es, q, v1, v2⟩ v h5 tk5 - hK F5 N5
      dsimp only at hK F5 N5
      have hlen2 := grow_len hK
      have hbl := bit_len' (q.fmod 2)
      walk_at "my_steps2"
      · rename News _ _ _ _ => N6
        rename Fr _ _ _ _ => F6
        refine' ksw_end (q.fmod 2 :: es, q.fdiv 2, _, _) F6 N6 (by intro p hp; rw [List.mem_singleton.mp hp]; simp only [List.mem_cons, true_or, or_true]) trivial ?nm (by walk_at "my_same") (grow_turn (by decide) hK (by omega)) (fdiv_less (by decide) (by omega))
        case nm =>
        intro y hy
        simp only [List.mem_cons, List.not_mem_nil, or_false] at hy
        rcases hy with rfl | rfl
        · dsimp only
          rw [← bin_more]; rfl
        · rfl
      · rename News _ _ _ _ => N6
        rename Fr _ _ _ _ => F6
        have hB := grow_end hK (by omega)
        dsimp only
        walk_at "my_steps3"
        obtain ⟨ns, hD, hDt, hDl⟩ := dec_txt hN0 hN1
        have hHl := hG.len
        have hBl := hK.len
        rename News _ _ _ _ => N7
        dsimp only
        refine' row_item (N := N) N7 (.head _) (fmod_rng _ (by decide)) (Nat.le_of_ble_eq_true rfl) ?mhP ?mh (by with_unfolding_all rfl)
        case mhP =>
          intro v hv
          simp only [List.mem_cons, List.not_mem_nil, or_false] at hv
          rcases hv with rfl | rfl | rfl | rfl | rfl | rfl | rfl | rfl | rfl | rfl | rfl | rfl | rfl | rfl | rfl | rfl | rfl | rfl
          · refine' row_ref (ns.map digCode) (some N) _ ?rq ?re ?rd (.dec hD) ?rl; (case rq => walk_at "my_mem"); (case re => exact hDt); (case rd => rfl); (case rl => rw [List.length_map]; omega)
          · refine' row_ref ((0 :: 0 :: ns).map digCode) (some N) _ ?rq ?re ?rd (.dec (based_00 hD)) ?rl; (case rq => walk_at "my_mem"); (case re => rw [hDt, show Str.ofString "00" = txt [48, 48] by decide +kernel, txt_app]; rfl); (case rd => rfl); (case rl => simp; omega)
          · refine' row_ref (48 :: 120 :: ds.map digCode) (some N) _ ?rq ?re ?rd (.hex hH) ?rl; (case rq => walk_at "my_mem"); (case re => rw [show Str.ofString "0x" = txt [48, 120] by decide +kernel, txt_app]; rfl); (case rd => rfl); (case rl => simp; omega)
          · refine' row_ref (48 :: 98 :: es.map digCode) (some N) _ ?rq ?re ?rd (.bin hB) ?rl; (case rq => walk_at "my_mem"); (case re => rw [show Str.ofString "0b" = txt [48, 98] by decide +kernel, txt_app]; rfl); (case rd => rfl); (case rl => simp; omega)
          · refine' row_ref _ (some _) _ ?rq ?re ?rd .oct ?rl; (case rq => walk_at "my_mem"); (case re => decide +kernel); (case rd => rfl); (case rl => decide)
          · refine' row_ref _ (some _) _ ?rq ?re ?rd .ca ?rl; (case rq => walk_at "my_mem"); (case re => decide +kernel); (case rd => rfl); (case rl => decide)
          · refine' row_ref _ (some _) _ ?rq ?re ?rd .cn ?rl; (case rq => walk_at "my_mem"); (case re => decide +kernel); (case rd => rfl); (case rl => decide)
          · refine' row_ref _ (some _) _ ?rq ?re ?rd .cq ?rl; (case rq => walk_at "my_mem"); (case re => decide +kernel); (case rd => rfl); (case rl => decide)
          · refine' row_ref _ (some _) _ ?rq ?re ?rd .cx ?rl; (case rq => walk_at "my_mem"); (case re => decide +kernel); (case rd => rfl); (case rl => decide)
          · refine' row_ref _ none 0 ?rq ?re ?rd .cab ?rl; (case rq => walk_at "my_mem"); (case re => decide +kernel); (case rd => rfl); (case rl => decide)
          · refine' row_ref _ none 0 ?rq ?re ?rd .dot ?rl; (case rq => walk_at "my_mem"); (case re => decide +kernel); (case rd => rfl); (case rl => decide)
          · refine' row_ref _ none 0 ?rq ?re ?rd .var ?rl; (case rq => walk_at "my_mem"); (case re => decide +kernel); (case rd => rfl); (case rl => decide)
          · refine' row_ref _ none 0 ?rq ?re ?rd .abc ?rl; (case rq => walk_at "my_mem"); (case re => decide +kernel); (case rd => rfl); (case rl => decide)
          · refine' row_ref _ none 0 ?rq ?re ?rd .plus ?rl; (case rq => walk_at "my_mem"); (case re => decide +kernel); (case rd => rfl); (case rl => decide)
          · refine' row_ref _ none 0 ?rq ?re ?rd .mm ?rl; (case rq => walk_at "my_mem"); (case re => decide +kernel); (case rd => rfl); (case rl => decide)
          · refine' row_ref _ none 0 ?rq ?re ?rd .zx ?rl; (case rq => walk_at "my_mem"); (case re => decide +kernel); (case rd => rfl); (case rl => decide)
          · refine' row_ref _ none 0 ?rq ?re ?rd .zb ?rl; (case rq => walk_at "my_mem"); (case re => decide +kernel); (case rd => rfl); (case rl => decide)
          · refine' row_ref _ none 0 ?rq ?re ?rd .us ?rl; (case rq => walk_at "my_mem"); (case re => decide +kernel); (case rd => rfl); (case rl => decide)
        case mh =>
        rintro v ⟨a, X, due, t, t', rfl, hm, hRow, hXl⟩
        have N8 := two_led N7 hCI hm (by walk_at "my_mem")
        clear hm N7
        walk_at "my_steps3"
        dsimp only
        rename News _ _ _ _ => N9
        refine' menu_item (InMenu signs4) N9 (.head _) (fmod_rng _ (by decide)) (Nat.le_of_ble_eq_true rfl) ?mhP2 ?mh2 (by with_unfolding_all rfl)
        case mhP2 =>
          intro v hv
          simp only [List.mem_cons, List.not_mem_nil, or_false] at hv
          rcases hv with rfl | rfl | rfl | rfl | rfl
          · exact menu_one [] (by decide +kernel) (by decide)
          · exact menu_one [45] (by decide +kernel) (by decide)
          · exact menu_one [] (by decide +kernel) (by decide)
          · exact menu_one [45, 32] (by decide +kernel) (by decide)
          · exact menu_one [45, 47, 42, 42, 47] (by decide +kernel) (by decide)
        case mh2 =>
        rintro v ⟨S, tS, rfl, hS⟩
        have N10 := one_led N9 hCI (by walk_at "my_mem")
        clear N9
        walk_at "my_steps3"
        dsimp only
        rename News _ _ _ _ => N11
        refine' menu_item (InMenu fronts) N11 (.head _) (fmod_rng _ (by decide)) (Nat.le_of_ble_eq_true rfl) ?mhP3 ?mh3 (by with_unfolding_all rfl)
        case mhP3 =>
          intro v hv
          simp only [List.mem_cons, List.not_mem_nil, or_false] at hv
          rcases hv with rfl | rfl | rfl | rfl | rfl
          · exact menu_one [] (by decide +kernel) (by decide)
          · exact menu_one [32] (by decide +kernel) (by decide)
          · exact menu_one [10, 9] (by decide +kernel) (by decide)
          · exact menu_one [37, 32, 53, 10] (by decide +kernel) (by decide)
          · exact menu_one [47, 42, 32, 55, 32, 42, 47] (by decide +kernel) (by decide)
        case mh3 =>
        rintro v ⟨F, tF, rfl, hF⟩
        have N12 := one_led N11 hCI (by walk_at "my_mem")
        clear N11
        walk_at "my_steps3"
        dsimp only
        rename News _ _ _ _ => N13
        refine' menu_item (InMenu behinds) N13 (.head _) (fmod_rng _ (by decide)) (Nat.le_of_ble_eq_true rfl) ?mhP4 ?mh4 (by with_unfolding_all rfl)
        case mhP4 =>
          intro v hv
          simp only [List.mem_cons, List.not_mem_nil, or_false] at hv
          rcases hv with rfl | rfl | rfl | rfl | rfl | rfl
          · exact menu_one [] (by decide +kernel) (by decide)
          · exact menu_one [32] (by decide +kernel) (by decide)
          · exact menu_one [103] (by decide +kernel) (by decide)
          · exact menu_one [46] (by decide +kernel) (by decide)
          · exact menu_one [32, 49] (by decide +kernel) (by decide)
          · exact menu_one [37, 32, 120] (by decide +kernel) (by decide)
        case mh4 =>
        rintro v ⟨B, tB, rfl, hBm⟩
        have N14 := cb_drop (news := []) N13 (fun p hp => absurd hp List.not_mem_nil)
        clear N13
        walk_at "to_if"
        try dsimp only
        rename Fr _ _ _ _ => F15
        refine' if_split S F X B due F15 ?iw ?ir
        case iw =>
          cases due with
          | none =>
            dsimp only [dueV] at F15
            walk_at "to_post"
            all_goals exact if_end (t' := 0) (by assumption) (by assumption) (by rfl) (by rfl) (by rfl) (by rfl) (by rfl) (by rw [res_none]; rfl)
          | some d =>
            dsimp only [dueV] at F15
            walk_at "to_post"
            all_goals first
              | exact if_end (t' := 0) (by assumption) (by assumption) (by rfl) (by rfl) (by rfl) (by rfl) (by rfl) (by rw [res_gap hS (by assumption)]; rfl)
              | exact if_end (t' := 0) (by assumption) (by assumption) (by rfl) (by rfl) (by rfl) (by rfl) (by rfl) (by rw [res_beh hBm (by assumption)]; rfl)
              | exact if_end (by assumption) (by assumption) (by rfl) (by rfl) (by rfl) (by rfl) (by rfl) (by rw [res_neg hS hBm (by assumption) (by assumption) (by assumption)]; rfl)
              | exact if_end (by assumption) (by assumption) (by rfl) (by rfl) (by rfl) (by rfl) (by rfl) (by rw [res_plain hS hBm (by assumption) (by assumption) (by assumption)]; rfl)
        case ir =>
        clear F15
        intro h7 tk7 t7 s1 s2 s3 s4 m7 F16 N16
        obtain ⟨z1, z2, z3⟩ := menu_len hS hF hBm
        have z4 : (txt X).length ≤ 60 := by rw [txt_len]; exact hXl
        dsimp only
        walk_at "to_call"
        show wpAny _ (ktrTop (1 + claimMargin + 1) 7 (some []) _ _ _ _ _ [] []) _ _ _ _
        refine' text_use hS hF hBm hRow hXl F16 ?tX N16 ?tT rfl (by decide) (by decide) ?tR
        case tX => assumption
        case tT => assumption
        case tR =>
        clear F16 N16
        intro l8 vs8 h8 tk8 F18 N18 hI8
        dsimp only
        walk_at "to_call"
        show wpAny _ (ktrTop (1 + claimMargin + 1) 7 (some []) _ _ _ _ _ [] []) _ _ _ _
        refine' read_use hS hF hBm hRow hXl hI8 F18 ?tX2 N18 ?tT2 rfl (by decide) (by decide) ?tR2
        case tX2 => assumption
        case tT2 => assumption
        case tR2 =>
        intro r9 h9 tk9 F19 hM
        clear F18 N18
        dsimp only
        cases hv : resOf S due B with
        | none =>
          rw [hv] at hM F19
          obtain rfl : r9 = .none := hM
          dsimp only [dueV] at F19
          iterate 2 (walk_at "one_step")
          k_end
          w_end
          refine goodW_bool (by assumption) (by assumption) (raisesW_false ?_) ?_
          · wrow_none_raised
          · exact post_true _ (by assumption)
        | some d =>
          rw [hv] at hM F19
          obtain ⟨t9, rfl⟩ : ∃ t, r9 = .int d t := hM
          dsimp only [dueV] at F19
          iterate 2 (walk_at "one_step")
          rw [beq_self_eq_true]
          k_end
          w_end
          refine goodW_bool (by assumption) (by assumption) (raisesW_false ?_) ?_
          · wrow_none_raised
          · exact post_true _ (by assumption)))
end
end Mine
set_option maxRecDepth 100000 in
set_option maxHeartbeats 8000000 in
theorem PySem.Challenge.cw_rr0020_01_holds : PySem.Challenge.rw_rr0020_01.Holds := by
  exact Mine.t1
