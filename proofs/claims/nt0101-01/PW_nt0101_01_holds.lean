import PyProof.Rows.All
import Wide.All
import OpenK.AllK
import Wide.FinOn
import PySem.Challenge.RW_nt0101_01
open PySem PySem.W PyProof.Rows PySem.Calls
set_option Elab.async false
set_option linter.unusedVariables false
set_option maxRecDepth 100000
set_option compiler.extract_closed false
set_option genInjectivity false
set_option genSizeOf false
set_option maxHeartbeats 4000000
namespace Mine
/-! the written part of the heap behind the top: the objects of the text's own defs and classes; the texts of the defs are the row's own -/
abbrev rowP : Program := PySem.Challenge.pw_nt0101_01
def nth : List Stmt → Nat → Stmt
  | [], _ => .Pass ⟨0, 0, 0, 0⟩
  | s :: _, 0 => s
  | _ :: r, n + 1 => nth r n
noncomputable def st (i : Nat) : Stmt := nth rowP.main.body i
noncomputable def me (i j : Nat) : Stmt := match st i with
  | .ClassDef _ _ _ b _ _ _ _ _ _ _ => nth b j
  | s => s
def dB : Stmt → List Stmt
  | .FunctionDef _ _ b _ _ _ _ _ _ _ => b
  | _ => []
def dP : Stmt → Arguments
  | .FunctionDef _ a _ _ _ _ _ _ _ _ => a
  | _ => ⟨[], [], none, [], [], none, []⟩
def dS : Stmt → Scope
  | .FunctionDef _ _ _ _ _ _ s _ _ _ => s
  | _ => ⟨.function, [], false, false, []⟩
structure Hold {α : Type} (a : α) : Prop where
  mk ::
theorem Hold.any {α : Type} {a : α} : Hold a := ⟨⟩
noncomputable def wp_m1_0 : Arguments := by
  refine (?f : Hold (dP (me 1 0)) → Arguments) Hold.any
  intro h
  conv at h => arg 1; whnf
  change Hold ?x at h
  exact ?x
noncomputable def wb_m1_0 : List Stmt := by
  refine (?f : Hold (dB (me 1 0)) → List Stmt) Hold.any
  intro h
  conv at h => arg 1; whnf
  change Hold ?x at h
  exact ?x
noncomputable def ws_m1_0 : Scope := by
  refine (?f : Hold (dS (me 1 0)) → Scope) Hold.any
  intro h
  conv at h => arg 1; whnf
  change Hold ?x at h
  exact ?x
noncomputable def wp_s11 : Arguments := by
  refine (?f : Hold (dP (st 11)) → Arguments) Hold.any
  intro h
  conv at h => arg 1; whnf
  change Hold ?x at h
  exact ?x
noncomputable def wb_s11 : List Stmt := by
  refine (?f : Hold (dB (st 11)) → List Stmt) Hold.any
  intro h
  conv at h => arg 1; whnf
  change Hold ?x at h
  exact ?x
noncomputable def ws_s11 : Scope := by
  refine (?f : Hold (dS (st 11)) → Scope) Hold.any
  intro h
  conv at h => arg 1; whnf
  change Hold ?x at h
  exact ?x
noncomputable def wp_s12 : Arguments := by
  refine (?f : Hold (dP (st 12)) → Arguments) Hold.any
  intro h
  conv at h => arg 1; whnf
  change Hold ?x at h
  exact ?x
noncomputable def wb_s12 : List Stmt := by
  refine (?f : Hold (dB (st 12)) → List Stmt) Hold.any
  intro h
  conv at h => arg 1; whnf
  change Hold ?x at h
  exact ?x
noncomputable def ws_s12 : Scope := by
  refine (?f : Hold (dS (st 12)) → Scope) Hold.any
  intro h
  conv at h => arg 1; whnf
  change Hold ?x at h
  exact ?x
noncomputable def wp_s13 : Arguments := by
  refine (?f : Hold (dP (st 13)) → Arguments) Hold.any
  intro h
  conv at h => arg 1; whnf
  change Hold ?x at h
  exact ?x
noncomputable def wb_s13 : List Stmt := by
  refine (?f : Hold (dB (st 13)) → List Stmt) Hold.any
  intro h
  conv at h => arg 1; whnf
  change Hold ?x at h
  exact ?x
noncomputable def ws_s13 : Scope := by
  refine (?f : Hold (dS (st 13)) → Scope) Hold.any
  intro h
  conv at h => arg 1; whnf
  change Hold ?x at h
  exact ?x
noncomputable def wp_s14 : Arguments := by
  refine (?f : Hold (dP (st 14)) → Arguments) Hold.any
  intro h
  conv at h => arg 1; whnf
  change Hold ?x at h
  exact ?x
noncomputable def wb_s14 : List Stmt := by
  refine (?f : Hold (dB (st 14)) → List Stmt) Hold.any
  intro h
  conv at h => arg 1; whnf
  change Hold ?x at h
  exact ?x
noncomputable def ws_s14 : Scope := by
  refine (?f : Hold (dS (st 14)) → Scope) Hold.any
  intro h
  conv at h => arg 1; whnf
  change Hold ?x at h
  exact ?x
noncomputable def wp_s15 : Arguments := by
  refine (?f : Hold (dP (st 15)) → Arguments) Hold.any
  intro h
  conv at h => arg 1; whnf
  change Hold ?x at h
  exact ?x
noncomputable def wb_s15 : List Stmt := by
  refine (?f : Hold (dB (st 15)) → List Stmt) Hold.any
  intro h
  conv at h => arg 1; whnf
  change Hold ?x at h
  exact ?x
noncomputable def ws_s15 : Scope := by
  refine (?f : Hold (dS (st 15)) → Scope) Hold.any
  intro h
  conv at h => arg 1; whnf
  change Hold ?x at h
  exact ?x
noncomputable def wp_s16 : Arguments := by
  refine (?f : Hold (dP (st 16)) → Arguments) Hold.any
  intro h
  conv at h => arg 1; whnf
  change Hold ?x at h
  exact ?x
noncomputable def wb_s16 : List Stmt := by
  refine (?f : Hold (dB (st 16)) → List Stmt) Hold.any
  intro h
  conv at h => arg 1; whnf
  change Hold ?x at h
  exact ?x
noncomputable def ws_s16 : Scope := by
  refine (?f : Hold (dS (st 16)) → Scope) Hold.any
  intro h
  conv at h => arg 1; whnf
  change Hold ?x at h
  exact ?x
noncomputable def wp_s17 : Arguments := by
  refine (?f : Hold (dP (st 17)) → Arguments) Hold.any
  intro h
  conv at h => arg 1; whnf
  change Hold ?x at h
  exact ?x
noncomputable def wb_s17 : List Stmt := by
  refine (?f : Hold (dB (st 17)) → List Stmt) Hold.any
  intro h
  conv at h => arg 1; whnf
  change Hold ?x at h
  exact ?x
noncomputable def ws_s17 : Scope := by
  refine (?f : Hold (dS (st 17)) → Scope) Hold.any
  intro h
  conv at h => arg 1; whnf
  change Hold ?x at h
  exact ?x
noncomputable def wp_s18 : Arguments := by
  refine (?f : Hold (dP (st 18)) → Arguments) Hold.any
  intro h
  conv at h => arg 1; whnf
  change Hold ?x at h
  exact ?x
noncomputable def wb_s18 : List Stmt := by
  refine (?f : Hold (dB (st 18)) → List Stmt) Hold.any
  intro h
  conv at h => arg 1; whnf
  change Hold ?x at h
  exact ?x
noncomputable def ws_s18 : Scope := by
  refine (?f : Hold (dS (st 18)) → Scope) Hold.any
  intro h
  conv at h => arg 1; whnf
  change Hold ?x at h
  exact ?x
noncomputable def wp_s19 : Arguments := by
  refine (?f : Hold (dP (st 19)) → Arguments) Hold.any
  intro h
  conv at h => arg 1; whnf
  change Hold ?x at h
  exact ?x
noncomputable def wb_s19 : List Stmt := by
  refine (?f : Hold (dB (st 19)) → List Stmt) Hold.any
  intro h
  conv at h => arg 1; whnf
  change Hold ?x at h
  exact ?x
noncomputable def ws_s19 : Scope := by
  refine (?f : Hold (dS (st 19)) → Scope) Hold.any
  intro h
  conv at h => arg 1; whnf
  change Hold ?x at h
  exact ?x
noncomputable def wp_s20 : Arguments := by
  refine (?f : Hold (dP (st 20)) → Arguments) Hold.any
  intro h
  conv at h => arg 1; whnf
  change Hold ?x at h
  exact ?x
noncomputable def wb_s20 : List Stmt := by
  refine (?f : Hold (dB (st 20)) → List Stmt) Hold.any
  intro h
  conv at h => arg 1; whnf
  change Hold ?x at h
  exact ?x
noncomputable def ws_s20 : Scope := by
  refine (?f : Hold (dS (st 20)) → Scope) Hold.any
  intro h
  conv at h => arg 1; whnf
  change Hold ?x at h
  exact ?x
noncomputable def wp_s21 : Arguments := by
  refine (?f : Hold (dP (st 21)) → Arguments) Hold.any
  intro h
  conv at h => arg 1; whnf
  change Hold ?x at h
  exact ?x
noncomputable def wb_s21 : List Stmt := by
  refine (?f : Hold (dB (st 21)) → List Stmt) Hold.any
  intro h
  conv at h => arg 1; whnf
  change Hold ?x at h
  exact ?x
noncomputable def ws_s21 : Scope := by
  refine (?f : Hold (dS (st 21)) → Scope) Hold.any
  intro h
  conv at h => arg 1; whnf
  change Hold ?x at h
  exact ?x
noncomputable def wp_s22 : Arguments := by
  refine (?f : Hold (dP (st 22)) → Arguments) Hold.any
  intro h
  conv at h => arg 1; whnf
  change Hold ?x at h
  exact ?x
noncomputable def wb_s22 : List Stmt := by
  refine (?f : Hold (dB (st 22)) → List Stmt) Hold.any
  intro h
  conv at h => arg 1; whnf
  change Hold ?x at h
  exact ?x
noncomputable def ws_s22 : Scope := by
  refine (?f : Hold (dS (st 22)) → Scope) Hold.any
  intro h
  conv at h => arg 1; whnf
  change Hold ?x at h
  exact ?x
noncomputable def wp_s23 : Arguments := by
  refine (?f : Hold (dP (st 23)) → Arguments) Hold.any
  intro h
  conv at h => arg 1; whnf
  change Hold ?x at h
  exact ?x
noncomputable def wb_s23 : List Stmt := by
  refine (?f : Hold (dB (st 23)) → List Stmt) Hold.any
  intro h
  conv at h => arg 1; whnf
  change Hold ?x at h
  exact ?x
noncomputable def ws_s23 : Scope := by
  refine (?f : Hold (dS (st 23)) → Scope) Hold.any
  intro h
  conv at h => arg 1; whnf
  change Hold ?x at h
  exact ?x
noncomputable def wp_s25 : Arguments := by
  refine (?f : Hold (dP (st 25)) → Arguments) Hold.any
  intro h
  conv at h => arg 1; whnf
  change Hold ?x at h
  exact ?x
noncomputable def wb_s25 : List Stmt := by
  refine (?f : Hold (dB (st 25)) → List Stmt) Hold.any
  intro h
  conv at h => arg 1; whnf
  change Hold ?x at h
  exact ?x
noncomputable def ws_s25 : Scope := by
  refine (?f : Hold (dS (st 25)) → Scope) Hold.any
  intro h
  conv at h => arg 1; whnf
  change Hold ?x at h
  exact ?x
noncomputable def wp_m26_0 : Arguments := by
  refine (?f : Hold (dP (me 26 0)) → Arguments) Hold.any
  intro h
  conv at h => arg 1; whnf
  change Hold ?x at h
  exact ?x
noncomputable def wb_m26_0 : List Stmt := by
  refine (?f : Hold (dB (me 26 0)) → List Stmt) Hold.any
  intro h
  conv at h => arg 1; whnf
  change Hold ?x at h
  exact ?x
noncomputable def ws_m26_0 : Scope := by
  refine (?f : Hold (dS (me 26 0)) → Scope) Hold.any
  intro h
  conv at h => arg 1; whnf
  change Hold ?x at h
  exact ?x
noncomputable def wp_m26_1 : Arguments := by
  refine (?f : Hold (dP (me 26 1)) → Arguments) Hold.any
  intro h
  conv at h => arg 1; whnf
  change Hold ?x at h
  exact ?x
noncomputable def wb_m26_1 : List Stmt := by
  refine (?f : Hold (dB (me 26 1)) → List Stmt) Hold.any
  intro h
  conv at h => arg 1; whnf
  change Hold ?x at h
  exact ?x
noncomputable def ws_m26_1 : Scope := by
  refine (?f : Hold (dS (me 26 1)) → Scope) Hold.any
  intro h
  conv at h => arg 1; whnf
  change Hold ?x at h
  exact ?x
noncomputable def wp_m26_2 : Arguments := by
  refine (?f : Hold (dP (me 26 2)) → Arguments) Hold.any
  intro h
  conv at h => arg 1; whnf
  change Hold ?x at h
  exact ?x
noncomputable def wb_m26_2 : List Stmt := by
  refine (?f : Hold (dB (me 26 2)) → List Stmt) Hold.any
  intro h
  conv at h => arg 1; whnf
  change Hold ?x at h
  exact ?x
noncomputable def ws_m26_2 : Scope := by
  refine (?f : Hold (dS (me 26 2)) → Scope) Hold.any
  intro h
  conv at h => arg 1; whnf
  change Hold ?x at h
  exact ?x
noncomputable def wp_s28 : Arguments := by
  refine (?f : Hold (dP (st 28)) → Arguments) Hold.any
  intro h
  conv at h => arg 1; whnf
  change Hold ?x at h
  exact ?x
noncomputable def wb_s28 : List Stmt := by
  refine (?f : Hold (dB (st 28)) → List Stmt) Hold.any
  intro h
  conv at h => arg 1; whnf
  change Hold ?x at h
  exact ?x
noncomputable def ws_s28 : Scope := by
  refine (?f : Hold (dS (st 28)) → Scope) Hold.any
  intro h
  conv at h => arg 1; whnf
  change Hold ?x at h
  exact ?x
noncomputable def wp_s29 : Arguments := by
  refine (?f : Hold (dP (st 29)) → Arguments) Hold.any
  intro h
  conv at h => arg 1; whnf
  change Hold ?x at h
  exact ?x
noncomputable def wb_s29 : List Stmt := by
  refine (?f : Hold (dB (st 29)) → List Stmt) Hold.any
  intro h
  conv at h => arg 1; whnf
  change Hold ?x at h
  exact ?x
noncomputable def ws_s29 : Scope := by
  refine (?f : Hold (dS (st 29)) → Scope) Hold.any
  intro h
  conv at h => arg 1; whnf
  change Hold ?x at h
  exact ?x
noncomputable def wp_s30 : Arguments := by
  refine (?f : Hold (dP (st 30)) → Arguments) Hold.any
  intro h
  conv at h => arg 1; whnf
  change Hold ?x at h
  exact ?x
noncomputable def wb_s30 : List Stmt := by
  refine (?f : Hold (dB (st 30)) → List Stmt) Hold.any
  intro h
  conv at h => arg 1; whnf
  change Hold ?x at h
  exact ?x
noncomputable def ws_s30 : Scope := by
  refine (?f : Hold (dS (st 30)) → Scope) Hold.any
  intro h
  conv at h => arg 1; whnf
  change Hold ?x at h
  exact ?x
noncomputable def wp_s31 : Arguments := by
  refine (?f : Hold (dP (st 31)) → Arguments) Hold.any
  intro h
  conv at h => arg 1; whnf
  change Hold ?x at h
  exact ?x
noncomputable def wb_s31 : List Stmt := by
  refine (?f : Hold (dB (st 31)) → List Stmt) Hold.any
  intro h
  conv at h => arg 1; whnf
  change Hold ?x at h
  exact ?x
noncomputable def ws_s31 : Scope := by
  refine (?f : Hold (dS (st 31)) → Scope) Hold.any
  intro h
  conv at h => arg 1; whnf
  change Hold ?x at h
  exact ?x
noncomputable def wp_s32 : Arguments := by
  refine (?f : Hold (dP (st 32)) → Arguments) Hold.any
  intro h
  conv at h => arg 1; whnf
  change Hold ?x at h
  exact ?x
noncomputable def wb_s32 : List Stmt := by
  refine (?f : Hold (dB (st 32)) → List Stmt) Hold.any
  intro h
  conv at h => arg 1; whnf
  change Hold ?x at h
  exact ?x
noncomputable def ws_s32 : Scope := by
  refine (?f : Hold (dS (st 32)) → Scope) Hold.any
  intro h
  conv at h => arg 1; whnf
  change Hold ?x at h
  exact ?x
noncomputable def wp_s33 : Arguments := by
  refine (?f : Hold (dP (st 33)) → Arguments) Hold.any
  intro h
  conv at h => arg 1; whnf
  change Hold ?x at h
  exact ?x
noncomputable def wb_s33 : List Stmt := by
  refine (?f : Hold (dB (st 33)) → List Stmt) Hold.any
  intro h
  conv at h => arg 1; whnf
  change Hold ?x at h
  exact ?x
noncomputable def ws_s33 : Scope := by
  refine (?f : Hold (dS (st 33)) → Scope) Hold.any
  intro h
  conv at h => arg 1; whnf
  change Hold ?x at h
  exact ?x
noncomputable def wp_s34 : Arguments := by
  refine (?f : Hold (dP (st 34)) → Arguments) Hold.any
  intro h
  conv at h => arg 1; whnf
  change Hold ?x at h
  exact ?x
noncomputable def wb_s34 : List Stmt := by
  refine (?f : Hold (dB (st 34)) → List Stmt) Hold.any
  intro h
  conv at h => arg 1; whnf
  change Hold ?x at h
  exact ?x
noncomputable def ws_s34 : Scope := by
  refine (?f : Hold (dS (st 34)) → Scope) Hold.any
  intro h
  conv at h => arg 1; whnf
  change Hold ?x at h
  exact ?x
noncomputable def wp_s35 : Arguments := by
  refine (?f : Hold (dP (st 35)) → Arguments) Hold.any
  intro h
  conv at h => arg 1; whnf
  change Hold ?x at h
  exact ?x
noncomputable def wb_s35 : List Stmt := by
  refine (?f : Hold (dB (st 35)) → List Stmt) Hold.any
  intro h
  conv at h => arg 1; whnf
  change Hold ?x at h
  exact ?x
noncomputable def ws_s35 : Scope := by
  refine (?f : Hold (dS (st 35)) → Scope) Hold.any
  intro h
  conv at h => arg 1; whnf
  change Hold ?x at h
  exact ?x
noncomputable def wp_s36 : Arguments := by
  refine (?f : Hold (dP (st 36)) → Arguments) Hold.any
  intro h
  conv at h => arg 1; whnf
  change Hold ?x at h
  exact ?x
noncomputable def wb_s36 : List Stmt := by
  refine (?f : Hold (dB (st 36)) → List Stmt) Hold.any
  intro h
  conv at h => arg 1; whnf
  change Hold ?x at h
  exact ?x
noncomputable def ws_s36 : Scope := by
  refine (?f : Hold (dS (st 36)) → Scope) Hold.any
  intro h
  conv at h => arg 1; whnf
  change Hold ?x at h
  exact ?x
noncomputable def wp_s37 : Arguments := by
  refine (?f : Hold (dP (st 37)) → Arguments) Hold.any
  intro h
  conv at h => arg 1; whnf
  change Hold ?x at h
  exact ?x
noncomputable def wb_s37 : List Stmt := by
  refine (?f : Hold (dB (st 37)) → List Stmt) Hold.any
  intro h
  conv at h => arg 1; whnf
  change Hold ?x at h
  exact ?x
noncomputable def ws_s37 : Scope := by
  refine (?f : Hold (dS (st 37)) → Scope) Hold.any
  intro h
  conv at h => arg 1; whnf
  change Hold ?x at h
  exact ?x
noncomputable def wp_s38 : Arguments := by
  refine (?f : Hold (dP (st 38)) → Arguments) Hold.any
  intro h
  conv at h => arg 1; whnf
  change Hold ?x at h
  exact ?x
noncomputable def wb_s38 : List Stmt := by
  refine (?f : Hold (dB (st 38)) → List Stmt) Hold.any
  intro h
  conv at h => arg 1; whnf
  change Hold ?x at h
  exact ?x
noncomputable def ws_s38 : Scope := by
  refine (?f : Hold (dS (st 38)) → Scope) Hold.any
  intro h
  conv at h => arg 1; whnf
  change Hold ?x at h
  exact ?x
noncomputable def wp_s39 : Arguments := by
  refine (?f : Hold (dP (st 39)) → Arguments) Hold.any
  intro h
  conv at h => arg 1; whnf
  change Hold ?x at h
  exact ?x
noncomputable def wb_s39 : List Stmt := by
  refine (?f : Hold (dB (st 39)) → List Stmt) Hold.any
  intro h
  conv at h => arg 1; whnf
  change Hold ?x at h
  exact ?x
noncomputable def ws_s39 : Scope := by
  refine (?f : Hold (dS (st 39)) → Scope) Hold.any
  intro h
  conv at h => arg 1; whnf
  change Hold ?x at h
  exact ?x
noncomputable def wp_s40 : Arguments := by
  refine (?f : Hold (dP (st 40)) → Arguments) Hold.any
  intro h
  conv at h => arg 1; whnf
  change Hold ?x at h
  exact ?x
noncomputable def wb_s40 : List Stmt := by
  refine (?f : Hold (dB (st 40)) → List Stmt) Hold.any
  intro h
  conv at h => arg 1; whnf
  change Hold ?x at h
  exact ?x
noncomputable def ws_s40 : Scope := by
  refine (?f : Hold (dS (st 40)) → Scope) Hold.any
  intro h
  conv at h => arg 1; whnf
  change Hold ?x at h
  exact ?x
noncomputable def wp_s41 : Arguments := by
  refine (?f : Hold (dP (st 41)) → Arguments) Hold.any
  intro h
  conv at h => arg 1; whnf
  change Hold ?x at h
  exact ?x
noncomputable def wb_s41 : List Stmt := by
  refine (?f : Hold (dB (st 41)) → List Stmt) Hold.any
  intro h
  conv at h => arg 1; whnf
  change Hold ?x at h
  exact ?x
noncomputable def ws_s41 : Scope := by
  refine (?f : Hold (dS (st 41)) → Scope) Hold.any
  intro h
  conv at h => arg 1; whnf
  change Hold ?x at h
  exact ?x
noncomputable def wp_s42 : Arguments := by
  refine (?f : Hold (dP (st 42)) → Arguments) Hold.any
  intro h
  conv at h => arg 1; whnf
  change Hold ?x at h
  exact ?x
noncomputable def wb_s42 : List Stmt := by
  refine (?f : Hold (dB (st 42)) → List Stmt) Hold.any
  intro h
  conv at h => arg 1; whnf
  change Hold ?x at h
  exact ?x
noncomputable def ws_s42 : Scope := by
  refine (?f : Hold (dS (st 42)) → Scope) Hold.any
  intro h
  conv at h => arg 1; whnf
  change Hold ?x at h
  exact ?x
noncomputable def wp_s43 : Arguments := by
  refine (?f : Hold (dP (st 43)) → Arguments) Hold.any
  intro h
  conv at h => arg 1; whnf
  change Hold ?x at h
  exact ?x
noncomputable def wb_s43 : List Stmt := by
  refine (?f : Hold (dB (st 43)) → List Stmt) Hold.any
  intro h
  conv at h => arg 1; whnf
  change Hold ?x at h
  exact ?x
noncomputable def ws_s43 : Scope := by
  refine (?f : Hold (dS (st 43)) → Scope) Hold.any
  intro h
  conv at h => arg 1; whnf
  change Hold ?x at h
  exact ?x
noncomputable def wp_s44 : Arguments := by
  refine (?f : Hold (dP (st 44)) → Arguments) Hold.any
  intro h
  conv at h => arg 1; whnf
  change Hold ?x at h
  exact ?x
noncomputable def wb_s44 : List Stmt := by
  refine (?f : Hold (dB (st 44)) → List Stmt) Hold.any
  intro h
  conv at h => arg 1; whnf
  change Hold ?x at h
  exact ?x
noncomputable def ws_s44 : Scope := by
  refine (?f : Hold (dS (st 44)) → Scope) Hold.any
  intro h
  conv at h => arg 1; whnf
  change Hold ?x at h
  exact ?x
noncomputable def heapRaw (P : Params) : Frag :=
  ((nat_lit 2), ⟨Value.none, none, (.dict (List.toArray [⟨(PyData.keyHash P "type.__subclasses__.Exception.0"), (.str "type.__subclasses__.Exception.0" 214), (.int 31 0)⟩, ⟨(PyData.keyHash P "type.__subclasses__.Exception.n"), (.str "type.__subclasses__.Exception.n" 215), (.int 1 0)⟩]) 2), (List.toArray [])⟩) ::
  ((nat_lit 3), ⟨(.type "dict"), none, (.dict (List.toArray [⟨(PyData.keyHash P "__name__"), (.str "__name__" 165), (.str "law_nt0101_01" 466)⟩, ⟨(PyData.keyHash P "__doc__"), (.str "__doc__" 166), Value.none⟩, ⟨(PyData.keyHash P "__package__"), (.str "__package__" 167), Value.none⟩, ⟨(PyData.keyHash P "__loader__"), (.str "__loader__" 168), (.builtin "__main__.__loader__#\x6fpaque")⟩, ⟨(PyData.keyHash P "__spec__"), (.str "__spec__" 169), Value.none⟩, ⟨(PyData.keyHash P "__annotations__"), (.str "__annotations__" 170), (.ref 6)⟩, ⟨(PyData.keyHash P "__builtins__"), (.str "__builtins__" 171), (.ref 4)⟩, ⟨(PyData.keyHash P "__file__"), (.str "__file__" 173), (.str "/claim/cut.py" 172)⟩, ⟨(PyData.keyHash P "__cached__"), (.str "__cached__" 174), Value.none⟩, ⟨(PyData.keyHash P "PagebaseError"), (.str "PagebaseError" 217), (.ref 31)⟩, ⟨(PyData.keyHash P "SqlError"), (.str "SqlError" 233), (.ref 44)⟩, ⟨(PyData.keyHash P "MisuseError"), (.str "MisuseError" 249), (.ref 56)⟩, ⟨(PyData.keyHash P "MIN_INT"), (.str "MIN_INT" 256), (.int (Neg.neg 9223372036854775808) 255)⟩, ⟨(PyData.keyHash P "MAX_INT"), (.str "MAX_INT" 262), (.int 9223372036854775807 261)⟩, ⟨(PyData.keyHash P "STORAGE_RANKS"), (.str "STORAGE_RANKS" 275), (.ref 59)⟩, ⟨(PyData.keyHash P "SPACES"), (.str "SPACES" 277), (.str " \t\n\x0b\x0c\x0d" 276)⟩, ⟨(PyData.keyHash P "DIGITS"), (.str "DIGITS" 279), (.str "0123456789" 278)⟩, ⟨(PyData.keyHash P "REPLACEMENT"), (.str "REPLACEMENT" 282), (.str "�" 281)⟩, ⟨(PyData.keyHash P "lead_of"), (.str "lead_of" 289), (.ref 66)⟩, ⟨(PyData.keyHash P "text_of"), (.str "text_of" 300), (.ref 73)⟩, ⟨(PyData.keyHash P "code_at"), (.str "code_at" 313), (.ref 80)⟩, ⟨(PyData.keyHash P "fold_ascii"), (.str "fold_ascii" 322), (.ref 87)⟩, ⟨(PyData.keyHash P "storage_class"), (.str "storage_class" 329), (.ref 94)⟩, ⟨(PyData.keyHash P "collate"), (.str "collate" 338), (.ref 101)⟩, ⟨(PyData.keyHash P "sign_of"), (.str "sign_of" 346), (.ref 108)⟩, ⟨(PyData.keyHash P "compare_values"), (.str "compare_values" 358), (.ref 116)⟩, ⟨(PyData.keyHash P "digits_end"), (.str "digits_end" 366), (.ref 123)⟩, ⟨(PyData.keyHash P "number_span"), (.str "number_span" 376), (.ref 130)⟩, ⟨(PyData.keyHash P "number_of"), (.str "number_of" 385), (.ref 137)⟩, ⟨(PyData.keyHash P "as_integer"), (.str "as_integer" 394), (.ref 144)⟩, ⟨(PyData.keyHash P "as_text"), (.str "as_text" 401), (.ref 151)⟩, ⟨(PyData.keyHash P "better"), (.str "better" 413), (.ref 158)⟩, ⟨(PyData.keyHash P "Aggregate"), (.str "Aggregate" 465), (.ref 189)⟩, ⟨(PyData.keyHash P "_law_pool"), (.str "_law_pool" 478), (.ref 200)⟩, ⟨(PyData.keyHash P "_law_take"), (.str "_law_take" 487), (.ref 207)⟩, ⟨(PyData.keyHash P "_law_one"), (.str "_law_one" 495), (.ref 214)⟩, ⟨(PyData.keyHash P "_law_value"), (.str "_law_value" 503), (.ref 221)⟩, ⟨(PyData.keyHash P "_law_class"), (.str "_law_class" 510), (.ref 228)⟩, ⟨(PyData.keyHash P "_law_points"), (.str "_law_points" 516), (.ref 233)⟩, ⟨(PyData.keyHash P "_law_less"), (.str "_law_less" 525), (.ref 240)⟩, ⟨(PyData.keyHash P "_law_text"), (.str "_law_text" 532), (.ref 247)⟩, ⟨(PyData.keyHash P "_law_number"), (.str "_law_number" 538), (.ref 252)⟩, ⟨(PyData.keyHash P "_law_gathered"), (.str "_law_gathered" 550), (.ref 259)⟩, ⟨(PyData.keyHash P "_law_best"), (.str "_law_best" 561), (.ref 266)⟩, ⟨(PyData.keyHash P "_law_alike"), (.str "_law_alike" 570), (.ref 273)⟩, ⟨(PyData.keyHash P "_law_counts_right"), (.str "_law_counts_right" 576), (.ref 278)⟩, ⟨(PyData.keyHash P "_law_bests_right"), (.str "_law_bests_right" 582), (.ref 283)⟩, ⟨(PyData.keyHash P "_law_joined_right"), (.str "_law_joined_right" 588), (.ref 288)⟩, ⟨(PyData.keyHash P "_law_great_right"), (.str "_law_great_right" 594), (.ref 293)⟩, ⟨(PyData.keyHash P "law"), (.str "law" 600), (.ref 298)⟩]) 50), (List.toArray [])⟩) ::
  ((nat_lit 15), ⟨(.type "tuple"), none, (.seq (List.toArray [(.type "Exception")]) 0), (List.toArray [])⟩) ::
  ((nat_lit 22), ⟨(.type "tuple"), none, (.seq (List.toArray []) 0), (List.toArray [])⟩) ::
  ((nat_lit 24), ⟨(.type "tuple"), none, (.seq (List.toArray [(.str "self" 204), (.str "message" 205)]) 0), (List.toArray [])⟩) ::
  ((nat_lit 25), ⟨(.type "tuple"), none, (.seq (List.toArray []) 0), (List.toArray [])⟩) ::
  ((nat_lit 27), ⟨(.type "code"), none, (.fields (List.toArray [(.str "__init__" 201), (.str "PagebaseError.__init__" 202), (.str "/claim/cut.py" 203), (.int 4 0), (.int 2 0), (.int 0 0), (.int 0 0), (.int 3 0), (.ref 22), (.bool Bool.true), (.int 181 0), (.ref 23), Value.none, (.ref 24), (.ref 25), (.ref 26), (.int 206 0), (.int 4 0), (.str "/claim/cut.py" 207)])), (List.toArray [])⟩) ::
  ((nat_lit 28), ⟨(.type "function"), none, (.func ⟨"__init__", "PagebaseError.__init__", wp_m1_0, (.stmts wb_m1_0), ws_m1_0, 3, [], Value.none, Value.none, Value.none, (.str "pagebase.errors" 187), none, (.ref 27), Value.none, 0⟩), (List.toArray [])⟩) ::
  ((nat_lit 29), ⟨(.type "tuple"), none, (.seq (List.toArray [(.str "message" 209)]) 0), (List.toArray [])⟩) ::
  ((nat_lit 30), ⟨(.type "dict"), none, (.dict (List.toArray [⟨(PyData.keyHash P "__module__"), (.str "__module__" 196), (.str "pagebase.errors" 187)⟩, ⟨(PyData.keyHash P "__firstlineno__"), (.str "__firstlineno__" 200), (.int 2 199)⟩, ⟨(PyData.keyHash P "__init__"), (.str "__init__" 208), (.ref 28)⟩, ⟨(PyData.keyHash P "__static_attributes__"), (.str "__static_attributes__" 210), (.ref 29)⟩, ⟨(PyData.keyHash P "__weakref__"), (.str "__weakref__" 212), (.ref 32)⟩, ⟨(PyData.keyHash P "__doc__"), (.str "__doc__" 213), Value.none⟩]) 3), (List.toArray [])⟩) ::
  ((nat_lit 31), ⟨(.type "type"), none, (.cls ⟨"PagebaseError", [(.type "Exception")], [(.ref 31), (.type "Exception"), (.type "BaseException"), (.type "object")], 30, "PagebaseError", Bool.true, [], [(.ref 44), (.ref 56)], Bool.false, none, Bool.false⟩), (List.toArray [(some (.ref 15)), none, (some (.str "PagebaseError" 189)), (some (.str "PagebaseError" 197)), (some (.builtin "Exception.__new__")), (some (.bool Bool.true))])⟩) ::
  ((nat_lit 32), ⟨(.type "getset_descriptor"), none, (.fields (List.toArray [(.str "__weakref__" 211), (.ref 31), (.builtin "ExceptionGroup.__weakref__"), Value.none])), (List.toArray [])⟩) ::
  ((nat_lit 35), ⟨(.type "tuple"), none, (.seq (List.toArray [(.ref 31)]) 0), (List.toArray [])⟩) ::
  ((nat_lit 42), ⟨(.type "tuple"), none, (.seq (List.toArray []) 0), (List.toArray [])⟩) ::
  ((nat_lit 43), ⟨(.type "dict"), none, (.dict (List.toArray [⟨(PyData.keyHash P "__module__"), (.str "__module__" 225), (.str "pagebase.errors" 187)⟩, ⟨(PyData.keyHash P "__firstlineno__"), (.str "__firstlineno__" 229), (.int 6 228)⟩, ⟨(PyData.keyHash P "__static_attributes__"), (.str "__static_attributes__" 230), (.ref 42)⟩, ⟨(PyData.keyHash P "__doc__"), (.str "__doc__" 231), Value.none⟩]) 2), (List.toArray [])⟩) ::
  ((nat_lit 44), ⟨(.type "type"), none, (.cls ⟨"SqlError", [(.ref 31)], [(.ref 44), (.ref 31), (.type "Exception"), (.type "BaseException"), (.type "object")], 43, "SqlError", Bool.true, [], [], Bool.false, none, Bool.false⟩), (List.toArray [(some (.ref 35)), none, (some (.str "SqlError" 218)), (some (.str "SqlError" 226)), (some (.builtin "Exception.__new__")), (some (.bool Bool.true))])⟩) ::
  ((nat_lit 47), ⟨(.type "tuple"), none, (.seq (List.toArray [(.ref 31)]) 0), (List.toArray [])⟩) ::
  ((nat_lit 54), ⟨(.type "tuple"), none, (.seq (List.toArray []) 0), (List.toArray [])⟩) ::
  ((nat_lit 55), ⟨(.type "dict"), none, (.dict (List.toArray [⟨(PyData.keyHash P "__module__"), (.str "__module__" 241), (.str "pagebase.errors" 187)⟩, ⟨(PyData.keyHash P "__firstlineno__"), (.str "__firstlineno__" 245), (.int 8 244)⟩, ⟨(PyData.keyHash P "__static_attributes__"), (.str "__static_attributes__" 246), (.ref 54)⟩, ⟨(PyData.keyHash P "__doc__"), (.str "__doc__" 247), Value.none⟩]) 2), (List.toArray [])⟩) ::
  ((nat_lit 56), ⟨(.type "type"), none, (.cls ⟨"MisuseError", [(.ref 31)], [(.ref 56), (.ref 31), (.type "Exception"), (.type "BaseException"), (.type "object")], 55, "MisuseError", Bool.true, [], [], Bool.false, none, Bool.false⟩), (List.toArray [(some (.ref 47)), none, (some (.str "MisuseError" 234)), (some (.str "MisuseError" 242)), (some (.builtin "Exception.__new__")), (some (.bool Bool.true))])⟩) ::
  ((nat_lit 59), ⟨(.type "dict"), none, (.dict (List.toArray [⟨(PyData.keyHash P "null"), (.str "null" 263), (.int 0 264)⟩, ⟨(PyData.keyHash P "integer"), (.str "integer" 265), (.int 1 266)⟩, ⟨(PyData.keyHash P "text"), (.str "text" 267), (.int 2 268)⟩, ⟨(PyData.keyHash P "blob"), (.str "blob" 269), (.int 3 270)⟩]) 4), (List.toArray [])⟩) ::
  ((nat_lit 60), ⟨(.type "tuple"), none, (.seq (List.toArray []) 0), (List.toArray [])⟩) ::
  ((nat_lit 62), ⟨(.type "tuple"), none, (.seq (List.toArray [(.str "octet" 286)]) 0), (List.toArray [])⟩) ::
  ((nat_lit 63), ⟨(.type "tuple"), none, (.seq (List.toArray []) 0), (List.toArray [])⟩) ::
  ((nat_lit 65), ⟨(.type "code"), none, (.fields (List.toArray [(.str "lead_of" 283), (.str "lead_of" 284), (.str "/claim/cut.py" 285), (.int 17 0), (.int 1 0), (.int 0 0), (.int 0 0), (.int 3 0), (.ref 60), (.bool Bool.true), (.int 181 0), (.ref 61), Value.none, (.ref 62), (.ref 63), (.ref 64), (.int 287 0), (.int 17 0), (.str "/claim/cut.py" 288)])), (List.toArray [])⟩) ::
  ((nat_lit 66), ⟨(.type "function"), none, (.func ⟨"lead_of", "lead_of", wp_s11, (.stmts wb_s11), ws_s11, 3, [], Value.none, Value.none, Value.none, (.str "pagebase.values" 250), none, (.ref 65), Value.none, 0⟩), (List.toArray [])⟩) ::
  ((nat_lit 67), ⟨(.type "tuple"), none, (.seq (List.toArray []) 0), (List.toArray [])⟩) ::
  ((nat_lit 69), ⟨(.type "tuple"), none, (.seq (List.toArray [(.str "octets" 293), (.str "signs" 294), (.str "at" 295), (.str "lead" 296), (.str "code" 297)]) 0), (List.toArray [])⟩) ::
  ((nat_lit 70), ⟨(.type "tuple"), none, (.seq (List.toArray []) 0), (List.toArray [])⟩) ::
  ((nat_lit 72), ⟨(.type "code"), none, (.fields (List.toArray [(.str "text_of" 290), (.str "text_of" 291), (.str "/claim/cut.py" 292), (.int 27 0), (.int 1 0), (.int 0 0), (.int 0 0), (.int 3 0), (.ref 67), (.bool Bool.true), (.int 181 0), (.ref 68), Value.none, (.ref 69), (.ref 70), (.ref 71), (.int 298 0), (.int 27 0), (.str "/claim/cut.py" 299)])), (List.toArray [])⟩) ::
  ((nat_lit 73), ⟨(.type "function"), none, (.func ⟨"text_of", "text_of", wp_s12, (.stmts wb_s12), ws_s12, 3, [], Value.none, Value.none, Value.none, (.str "pagebase.values" 250), none, (.ref 72), Value.none, 0⟩), (List.toArray [])⟩) ::
  ((nat_lit 74), ⟨(.type "tuple"), none, (.seq (List.toArray []) 0), (List.toArray [])⟩) ::
  ((nat_lit 76), ⟨(.type "tuple"), none, (.seq (List.toArray [(.str "octets" 304), (.str "at" 305), (.str "lead" 306), (.str "follow" 307), (.str "code" 308), (.str "least" 309), (.str "place" 310)]) 0), (List.toArray [])⟩) ::
  ((nat_lit 77), ⟨(.type "tuple"), none, (.seq (List.toArray []) 0), (List.toArray [])⟩) ::
  ((nat_lit 79), ⟨(.type "code"), none, (.fields (List.toArray [(.str "code_at" 301), (.str "code_at" 302), (.str "/claim/cut.py" 303), (.int 42 0), (.int 3 0), (.int 0 0), (.int 0 0), (.int 3 0), (.ref 74), (.bool Bool.true), (.int 181 0), (.ref 75), Value.none, (.ref 76), (.ref 77), (.ref 78), (.int 311 0), (.int 42 0), (.str "/claim/cut.py" 312)])), (List.toArray [])⟩) ::
  ((nat_lit 80), ⟨(.type "function"), none, (.func ⟨"code_at", "code_at", wp_s13, (.stmts wb_s13), ws_s13, 3, [], Value.none, Value.none, Value.none, (.str "pagebase.values" 250), none, (.ref 79), Value.none, 0⟩), (List.toArray [])⟩) ::
  ((nat_lit 81), ⟨(.type "tuple"), none, (.seq (List.toArray []) 0), (List.toArray [])⟩) ::
  ((nat_lit 83), ⟨(.type "tuple"), none, (.seq (List.toArray [(.str "text" 317), (.str "signs" 318), (.str "sign" 319)]) 0), (List.toArray [])⟩) ::
  ((nat_lit 84), ⟨(.type "tuple"), none, (.seq (List.toArray []) 0), (List.toArray [])⟩) ::
  ((nat_lit 86), ⟨(.type "code"), none, (.fields (List.toArray [(.str "fold_ascii" 314), (.str "fold_ascii" 315), (.str "/claim/cut.py" 316), (.int 53 0), (.int 1 0), (.int 0 0), (.int 0 0), (.int 3 0), (.ref 81), (.bool Bool.true), (.int 181 0), (.ref 82), Value.none, (.ref 83), (.ref 84), (.ref 85), (.int 320 0), (.int 53 0), (.str "/claim/cut.py" 321)])), (List.toArray [])⟩) ::
  ((nat_lit 87), ⟨(.type "function"), none, (.func ⟨"fold_ascii", "fold_ascii", wp_s14, (.stmts wb_s14), ws_s14, 3, [], Value.none, Value.none, Value.none, (.str "pagebase.values" 250), none, (.ref 86), Value.none, 0⟩), (List.toArray [])⟩) ::
  ((nat_lit 88), ⟨(.type "tuple"), none, (.seq (List.toArray []) 0), (List.toArray [])⟩) ::
  ((nat_lit 90), ⟨(.type "tuple"), none, (.seq (List.toArray [(.str "v" 326)]) 0), (List.toArray [])⟩) ::
  ((nat_lit 91), ⟨(.type "tuple"), none, (.seq (List.toArray []) 0), (List.toArray [])⟩) ::
  ((nat_lit 93), ⟨(.type "code"), none, (.fields (List.toArray [(.str "storage_class" 323), (.str "storage_class" 324), (.str "/claim/cut.py" 325), (.int 61 0), (.int 1 0), (.int 0 0), (.int 0 0), (.int 3 0), (.ref 88), (.bool Bool.true), (.int 181 0), (.ref 89), Value.none, (.ref 90), (.ref 91), (.ref 92), (.int 327 0), (.int 61 0), (.str "/claim/cut.py" 328)])), (List.toArray [])⟩) ::
  ((nat_lit 94), ⟨(.type "function"), none, (.func ⟨"storage_class", "storage_class", wp_s15, (.stmts wb_s15), ws_s15, 3, [], Value.none, Value.none, Value.none, (.str "pagebase.values" 250), none, (.ref 93), Value.none, 0⟩), (List.toArray [])⟩) ::
  ((nat_lit 95), ⟨(.type "tuple"), none, (.seq (List.toArray []) 0), (List.toArray [])⟩) ::
  ((nat_lit 97), ⟨(.type "tuple"), none, (.seq (List.toArray [(.str "text" 333), (.str "collation" 334), (.str "end" 335)]) 0), (List.toArray [])⟩) ::
  ((nat_lit 98), ⟨(.type "tuple"), none, (.seq (List.toArray []) 0), (List.toArray [])⟩) ::
  ((nat_lit 100), ⟨(.type "code"), none, (.fields (List.toArray [(.str "collate" 330), (.str "collate" 331), (.str "/claim/cut.py" 332), (.int 71 0), (.int 2 0), (.int 0 0), (.int 0 0), (.int 3 0), (.ref 95), (.bool Bool.true), (.int 181 0), (.ref 96), Value.none, (.ref 97), (.ref 98), (.ref 99), (.int 336 0), (.int 71 0), (.str "/claim/cut.py" 337)])), (List.toArray [])⟩) ::
  ((nat_lit 101), ⟨(.type "function"), none, (.func ⟨"collate", "collate", wp_s16, (.stmts wb_s16), ws_s16, 3, [], Value.none, Value.none, Value.none, (.str "pagebase.values" 250), none, (.ref 100), Value.none, 0⟩), (List.toArray [])⟩) ::
  ((nat_lit 102), ⟨(.type "tuple"), none, (.seq (List.toArray []) 0), (List.toArray [])⟩) ::
  ((nat_lit 104), ⟨(.type "tuple"), none, (.seq (List.toArray [(.str "one" 342), (.str "other" 343)]) 0), (List.toArray [])⟩) ::
  ((nat_lit 105), ⟨(.type "tuple"), none, (.seq (List.toArray []) 0), (List.toArray [])⟩) ::
  ((nat_lit 107), ⟨(.type "code"), none, (.fields (List.toArray [(.str "sign_of" 339), (.str "sign_of" 340), (.str "/claim/cut.py" 341), (.int 82 0), (.int 2 0), (.int 0 0), (.int 0 0), (.int 3 0), (.ref 102), (.bool Bool.true), (.int 181 0), (.ref 103), Value.none, (.ref 104), (.ref 105), (.ref 106), (.int 344 0), (.int 82 0), (.str "/claim/cut.py" 345)])), (List.toArray [])⟩) ::
  ((nat_lit 108), ⟨(.type "function"), none, (.func ⟨"sign_of", "sign_of", wp_s17, (.stmts wb_s17), ws_s17, 3, [], Value.none, Value.none, Value.none, (.str "pagebase.values" 250), none, (.ref 107), Value.none, 0⟩), (List.toArray [])⟩) ::
  ((nat_lit 109), ⟨(.type "tuple"), none, (.seq (List.toArray [(.str "binary" 347)]) 0), (List.toArray [])⟩) ::
  ((nat_lit 110), ⟨(.type "tuple"), none, (.seq (List.toArray []) 0), (List.toArray [])⟩) ::
  ((nat_lit 112), ⟨(.type "tuple"), none, (.seq (List.toArray [(.str "a" 351), (.str "b" 352), (.str "collation" 353), (.str "one" 354), (.str "other" 355)]) 0), (List.toArray [])⟩) ::
  ((nat_lit 113), ⟨(.type "tuple"), none, (.seq (List.toArray []) 0), (List.toArray [])⟩) ::
  ((nat_lit 115), ⟨(.type "code"), none, (.fields (List.toArray [(.str "compare_values" 348), (.str "compare_values" 349), (.str "/claim/cut.py" 350), (.int 88 0), (.int 3 0), (.int 0 0), (.int 0 0), (.int 3 0), (.ref 110), (.bool Bool.true), (.int 181 0), (.ref 111), Value.none, (.ref 112), (.ref 113), (.ref 114), (.int 356 0), (.int 88 0), (.str "/claim/cut.py" 357)])), (List.toArray [])⟩) ::
  ((nat_lit 116), ⟨(.type "function"), none, (.func ⟨"compare_values", "compare_values", wp_s18, (.stmts wb_s18), ws_s18, 3, [], (.ref 109), Value.none, Value.none, (.str "pagebase.values" 250), none, (.ref 115), Value.none, 0⟩), (List.toArray [])⟩) ::
  ((nat_lit 117), ⟨(.type "tuple"), none, (.seq (List.toArray []) 0), (List.toArray [])⟩) ::
  ((nat_lit 119), ⟨(.type "tuple"), none, (.seq (List.toArray [(.str "text" 362), (.str "at" 363)]) 0), (List.toArray [])⟩) ::
  ((nat_lit 120), ⟨(.type "tuple"), none, (.seq (List.toArray []) 0), (List.toArray [])⟩) ::
  ((nat_lit 122), ⟨(.type "code"), none, (.fields (List.toArray [(.str "digits_end" 359), (.str "digits_end" 360), (.str "/claim/cut.py" 361), (.int 98 0), (.int 2 0), (.int 0 0), (.int 0 0), (.int 3 0), (.ref 117), (.bool Bool.true), (.int 181 0), (.ref 118), Value.none, (.ref 119), (.ref 120), (.ref 121), (.int 364 0), (.int 98 0), (.str "/claim/cut.py" 365)])), (List.toArray [])⟩) ::
  ((nat_lit 123), ⟨(.type "function"), none, (.func ⟨"digits_end", "digits_end", wp_s19, (.stmts wb_s19), ws_s19, 3, [], Value.none, Value.none, Value.none, (.str "pagebase.values" 250), none, (.ref 122), Value.none, 0⟩), (List.toArray [])⟩) ::
  ((nat_lit 124), ⟨(.type "tuple"), none, (.seq (List.toArray []) 0), (List.toArray [])⟩) ::
  ((nat_lit 126), ⟨(.type "tuple"), none, (.seq (List.toArray [(.str "text" 370), (.str "begin" 371), (.str "at" 372), (.str "end" 373)]) 0), (List.toArray [])⟩) ::
  ((nat_lit 127), ⟨(.type "tuple"), none, (.seq (List.toArray []) 0), (List.toArray [])⟩) ::
  ((nat_lit 129), ⟨(.type "code"), none, (.fields (List.toArray [(.str "number_span" 367), (.str "number_span" 368), (.str "/claim/cut.py" 369), (.int 102 0), (.int 1 0), (.int 0 0), (.int 0 0), (.int 3 0), (.ref 124), (.bool Bool.true), (.int 181 0), (.ref 125), Value.none, (.ref 126), (.ref 127), (.ref 128), (.int 374 0), (.int 102 0), (.str "/claim/cut.py" 375)])), (List.toArray [])⟩) ::
  ((nat_lit 130), ⟨(.type "function"), none, (.func ⟨"number_span", "number_span", wp_s20, (.stmts wb_s20), ws_s20, 3, [], Value.none, Value.none, Value.none, (.str "pagebase.values" 250), none, (.ref 129), Value.none, 0⟩), (List.toArray [])⟩) ::
  ((nat_lit 131), ⟨(.type "tuple"), none, (.seq (List.toArray []) 0), (List.toArray [])⟩) ::
  ((nat_lit 133), ⟨(.type "tuple"), none, (.seq (List.toArray [(.str "text" 380), (.str "number" 381), (.str "sign" 382)]) 0), (List.toArray [])⟩) ::
  ((nat_lit 134), ⟨(.type "tuple"), none, (.seq (List.toArray []) 0), (List.toArray [])⟩) ::
  ((nat_lit 136), ⟨(.type "code"), none, (.fields (List.toArray [(.str "number_of" 377), (.str "number_of" 378), (.str "/claim/cut.py" 379), (.int 113 0), (.int 1 0), (.int 0 0), (.int 0 0), (.int 3 0), (.ref 131), (.bool Bool.true), (.int 181 0), (.ref 132), Value.none, (.ref 133), (.ref 134), (.ref 135), (.int 383 0), (.int 113 0), (.str "/claim/cut.py" 384)])), (List.toArray [])⟩) ::
  ((nat_lit 137), ⟨(.type "function"), none, (.func ⟨"number_of", "number_of", wp_s21, (.stmts wb_s21), ws_s21, 3, [], Value.none, Value.none, Value.none, (.str "pagebase.values" 250), none, (.ref 136), Value.none, 0⟩), (List.toArray [])⟩) ::
  ((nat_lit 138), ⟨(.type "tuple"), none, (.seq (List.toArray []) 0), (List.toArray [])⟩) ::
  ((nat_lit 140), ⟨(.type "tuple"), none, (.seq (List.toArray [(.str "v" 389), (.str "text" 390), (.str "span" 391)]) 0), (List.toArray [])⟩) ::
  ((nat_lit 141), ⟨(.type "tuple"), none, (.seq (List.toArray []) 0), (List.toArray [])⟩) ::
  ((nat_lit 143), ⟨(.type "code"), none, (.fields (List.toArray [(.str "as_integer" 386), (.str "as_integer" 387), (.str "/claim/cut.py" 388), (.int 121 0), (.int 1 0), (.int 0 0), (.int 0 0), (.int 3 0), (.ref 138), (.bool Bool.true), (.int 181 0), (.ref 139), Value.none, (.ref 140), (.ref 141), (.ref 142), (.int 392 0), (.int 121 0), (.str "/claim/cut.py" 393)])), (List.toArray [])⟩) ::
  ((nat_lit 144), ⟨(.type "function"), none, (.func ⟨"as_integer", "as_integer", wp_s22, (.stmts wb_s22), ws_s22, 3, [], Value.none, Value.none, Value.none, (.str "pagebase.values" 250), none, (.ref 143), Value.none, 0⟩), (List.toArray [])⟩) ::
  ((nat_lit 145), ⟨(.type "tuple"), none, (.seq (List.toArray []) 0), (List.toArray [])⟩) ::
  ((nat_lit 147), ⟨(.type "tuple"), none, (.seq (List.toArray [(.str "v" 398)]) 0), (List.toArray [])⟩) ::
  ((nat_lit 148), ⟨(.type "tuple"), none, (.seq (List.toArray []) 0), (List.toArray [])⟩) ::
  ((nat_lit 150), ⟨(.type "code"), none, (.fields (List.toArray [(.str "as_text" 395), (.str "as_text" 396), (.str "/claim/cut.py" 397), (.int 131 0), (.int 1 0), (.int 0 0), (.int 0 0), (.int 3 0), (.ref 145), (.bool Bool.true), (.int 181 0), (.ref 146), Value.none, (.ref 147), (.ref 148), (.ref 149), (.int 399 0), (.int 131 0), (.str "/claim/cut.py" 400)])), (List.toArray [])⟩) ::
  ((nat_lit 151), ⟨(.type "function"), none, (.func ⟨"as_text", "as_text", wp_s23, (.stmts wb_s23), ws_s23, 3, [], Value.none, Value.none, Value.none, (.str "pagebase.values" 250), none, (.ref 150), Value.none, 0⟩), (List.toArray [])⟩) ::
  ((nat_lit 152), ⟨(.type "tuple"), none, (.seq (List.toArray []) 0), (List.toArray [])⟩) ::
  ((nat_lit 154), ⟨(.type "tuple"), none, (.seq (List.toArray [(.str "value" 407), (.str "best" 408), (.str "sign" 409), (.str "collation" 410)]) 0), (List.toArray [])⟩) ::
  ((nat_lit 155), ⟨(.type "tuple"), none, (.seq (List.toArray []) 0), (List.toArray [])⟩) ::
  ((nat_lit 157), ⟨(.type "code"), none, (.fields (List.toArray [(.str "better" 404), (.str "better" 405), (.str "/claim/cut.py" 406), (.int 138 0), (.int 4 0), (.int 0 0), (.int 0 0), (.int 3 0), (.ref 152), (.bool Bool.true), (.int 181 0), (.ref 153), Value.none, (.ref 154), (.ref 155), (.ref 156), (.int 411 0), (.int 138 0), (.str "/claim/cut.py" 412)])), (List.toArray [])⟩) ::
  ((nat_lit 158), ⟨(.type "function"), none, (.func ⟨"better", "better", wp_s25, (.stmts wb_s25), ws_s25, 3, [], Value.none, Value.none, Value.none, (.str "pagebase.aggregates" 402), none, (.ref 157), Value.none, 0⟩), (List.toArray [])⟩) ::
  ((nat_lit 166), ⟨(.type "tuple"), none, (.seq (List.toArray []) 0), (List.toArray [])⟩) ::
  ((nat_lit 168), ⟨(.type "tuple"), none, (.seq (List.toArray [(.str "self" 429), (.str "name" 430), (.str "collation" 431)]) 0), (List.toArray [])⟩) ::
  ((nat_lit 169), ⟨(.type "tuple"), none, (.seq (List.toArray []) 0), (List.toArray [])⟩) ::
  ((nat_lit 171), ⟨(.type "code"), none, (.fields (List.toArray [(.str "__init__" 426), (.str "Aggregate.__init__" 427), (.str "/claim/cut.py" 428), (.int 142 0), (.int 3 0), (.int 0 0), (.int 0 0), (.int 3 0), (.ref 166), (.bool Bool.true), (.int 181 0), (.ref 167), Value.none, (.ref 168), (.ref 169), (.ref 170), (.int 432 0), (.int 142 0), (.str "/claim/cut.py" 433)])), (List.toArray [])⟩) ::
  ((nat_lit 172), ⟨(.type "function"), none, (.func ⟨"__init__", "Aggregate.__init__", wp_m26_0, (.stmts wb_m26_0), ws_m26_0, 3, [], Value.none, Value.none, Value.none, (.str "pagebase.aggregates" 402), none, (.ref 171), Value.none, 0⟩), (List.toArray [])⟩) ::
  ((nat_lit 173), ⟨(.type "tuple"), none, (.seq (List.toArray []) 0), (List.toArray [])⟩) ::
  ((nat_lit 175), ⟨(.type "tuple"), none, (.seq (List.toArray [(.str "self" 438), (.str "arguments" 439), (.str "parted" 440), (.str "sign" 441)]) 0), (List.toArray [])⟩) ::
  ((nat_lit 176), ⟨(.type "tuple"), none, (.seq (List.toArray []) 0), (List.toArray [])⟩) ::
  ((nat_lit 178), ⟨(.type "code"), none, (.fields (List.toArray [(.str "step" 435), (.str "Aggregate.step" 436), (.str "/claim/cut.py" 437), (.int 150 0), (.int 2 0), (.int 0 0), (.int 0 0), (.int 3 0), (.ref 173), (.bool Bool.true), (.int 181 0), (.ref 174), Value.none, (.ref 175), (.ref 176), (.ref 177), (.int 442 0), (.int 150 0), (.str "/claim/cut.py" 443)])), (List.toArray [])⟩) ::
  ((nat_lit 179), ⟨(.type "function"), none, (.func ⟨"step", "Aggregate.step", wp_m26_1, (.stmts wb_m26_1), ws_m26_1, 3, [], Value.none, Value.none, Value.none, (.str "pagebase.aggregates" 402), none, (.ref 178), Value.none, 0⟩), (List.toArray [])⟩) ::
  ((nat_lit 180), ⟨(.type "tuple"), none, (.seq (List.toArray []) 0), (List.toArray [])⟩) ::
  ((nat_lit 182), ⟨(.type "tuple"), none, (.seq (List.toArray [(.str "self" 448)]) 0), (List.toArray [])⟩) ::
  ((nat_lit 183), ⟨(.type "tuple"), none, (.seq (List.toArray []) 0), (List.toArray [])⟩) ::
  ((nat_lit 185), ⟨(.type "code"), none, (.fields (List.toArray [(.str "final" 445), (.str "Aggregate.final" 446), (.str "/claim/cut.py" 447), (.int 171 0), (.int 1 0), (.int 0 0), (.int 0 0), (.int 3 0), (.ref 180), (.bool Bool.true), (.int 181 0), (.ref 181), Value.none, (.ref 182), (.ref 183), (.ref 184), (.int 449 0), (.int 171 0), (.str "/claim/cut.py" 450)])), (List.toArray [])⟩) ::
  ((nat_lit 186), ⟨(.type "function"), none, (.func ⟨"final", "Aggregate.final", wp_m26_2, (.stmts wb_m26_2), ws_m26_2, 3, [], Value.none, Value.none, Value.none, (.str "pagebase.aggregates" 402), none, (.ref 185), Value.none, 0⟩), (List.toArray [])⟩) ::
  ((nat_lit 187), ⟨(.type "tuple"), none, (.seq (List.toArray [(.str "best" 452), (.str "collation" 453), (.str "many" 454), (.str "pieces" 455), (.str "summed" 456), (.str "word" 457)]) 0), (List.toArray [])⟩) ::
  ((nat_lit 188), ⟨(.type "dict"), none, (.dict (List.toArray [⟨(PyData.keyHash P "__module__"), (.str "__module__" 421), (.str "pagebase.aggregates" 402)⟩, ⟨(PyData.keyHash P "__firstlineno__"), (.str "__firstlineno__" 425), (.int 140 424)⟩, ⟨(PyData.keyHash P "__init__"), (.str "__init__" 434), (.ref 172)⟩, ⟨(PyData.keyHash P "step"), (.str "step" 444), (.ref 179)⟩, ⟨(PyData.keyHash P "final"), (.str "final" 451), (.ref 186)⟩, ⟨(PyData.keyHash P "__static_attributes__"), (.str "__static_attributes__" 458), (.ref 187)⟩, ⟨(PyData.keyHash P "__dict__"), (.str "__dict__" 460), (.ref 190)⟩, ⟨(PyData.keyHash P "__weakref__"), (.str "__weakref__" 462), (.ref 191)⟩, ⟨(PyData.keyHash P "__doc__"), (.str "__doc__" 463), Value.none⟩]) 4), (List.toArray [])⟩) ::
  ((nat_lit 189), ⟨(.type "type"), none, (.cls ⟨"Aggregate", [(.type "object")], [(.ref 189), (.type "object")], 188, "Aggregate", Bool.true, [], [], Bool.false, none, Bool.false⟩), (List.toArray [none, none, (some (.str "Aggregate" 414)), (some (.str "Aggregate" 422)), (some (.builtin "object.__new__")), (some (.bool Bool.true))])⟩) ::
  ((nat_lit 190), ⟨(.type "getset_descriptor"), none, (.fields (List.toArray [(.str "__dict__" 459), (.ref 189), (.builtin "function.__dict__"), (.builtin "function.__dict__#set")])), (List.toArray [])⟩) ::
  ((nat_lit 191), ⟨(.type "getset_descriptor"), none, (.fields (List.toArray [(.str "__weakref__" 461), (.ref 189), (.builtin "ExceptionGroup.__weakref__"), Value.none])), (List.toArray [])⟩) ::
  ((nat_lit 194), ⟨(.type "tuple"), none, (.seq (List.toArray []) 0), (List.toArray [])⟩) ::
  ((nat_lit 196), ⟨(.type "tuple"), none, (.seq (List.toArray [(.str "script" 471), (.str "k" 472), (.str "cell" 473), (.str "big" 474), (.str "mixed" 475)]) 0), (List.toArray [])⟩) ::
  ((nat_lit 197), ⟨(.type "tuple"), none, (.seq (List.toArray []) 0), (List.toArray [])⟩) ::
  ((nat_lit 199), ⟨(.type "code"), none, (.fields (List.toArray [(.str "_law_pool" 468), (.str "_law_pool" 469), (.str "/claim/cut.py" 470), (.int 186 0), (.int 2 0), (.int 0 0), (.int 0 0), (.int 3 0), (.ref 194), (.bool Bool.true), (.int 181 0), (.ref 195), Value.none, (.ref 196), (.ref 197), (.ref 198), (.int 476 0), (.int 186 0), (.str "/claim/cut.py" 477)])), (List.toArray [])⟩) ::
  ((nat_lit 200), ⟨(.type "function"), none, (.func ⟨"_law_pool", "_law_pool", wp_s28, (.stmts wb_s28), ws_s28, 3, [], Value.none, Value.none, Value.none, (.str "law_nt0101_01" 466), none, (.ref 199), Value.none, 0⟩), (List.toArray [])⟩) ::
  ((nat_lit 201), ⟨(.type "tuple"), none, (.seq (List.toArray []) 0), (List.toArray [])⟩) ::
  ((nat_lit 203), ⟨(.type "tuple"), none, (.seq (List.toArray [(.str "source" 482), (.str "top" 483), (.str "drawn" 484)]) 0), (List.toArray [])⟩) ::
  ((nat_lit 204), ⟨(.type "tuple"), none, (.seq (List.toArray []) 0), (List.toArray [])⟩) ::
  ((nat_lit 206), ⟨(.type "code"), none, (.fields (List.toArray [(.str "_law_take" 479), (.str "_law_take" 480), (.str "/claim/cut.py" 481), (.int 193 0), (.int 2 0), (.int 0 0), (.int 0 0), (.int 3 0), (.ref 201), (.bool Bool.true), (.int 181 0), (.ref 202), Value.none, (.ref 203), (.ref 204), (.ref 205), (.int 485 0), (.int 193 0), (.str "/claim/cut.py" 486)])), (List.toArray [])⟩) ::
  ((nat_lit 207), ⟨(.type "function"), none, (.func ⟨"_law_take", "_law_take", wp_s29, (.stmts wb_s29), ws_s29, 3, [], Value.none, Value.none, Value.none, (.str "law_nt0101_01" 466), none, (.ref 206), Value.none, 0⟩), (List.toArray [])⟩) ::
  ((nat_lit 208), ⟨(.type "tuple"), none, (.seq (List.toArray []) 0), (List.toArray [])⟩) ::
  ((nat_lit 210), ⟨(.type "tuple"), none, (.seq (List.toArray [(.str "source" 491), (.str "things" 492)]) 0), (List.toArray [])⟩) ::
  ((nat_lit 211), ⟨(.type "tuple"), none, (.seq (List.toArray []) 0), (List.toArray [])⟩) ::
  ((nat_lit 213), ⟨(.type "code"), none, (.fields (List.toArray [(.str "_law_one" 488), (.str "_law_one" 489), (.str "/claim/cut.py" 490), (.int 200 0), (.int 2 0), (.int 0 0), (.int 0 0), (.int 3 0), (.ref 208), (.bool Bool.true), (.int 181 0), (.ref 209), Value.none, (.ref 210), (.ref 211), (.ref 212), (.int 493 0), (.int 200 0), (.str "/claim/cut.py" 494)])), (List.toArray [])⟩) ::
  ((nat_lit 214), ⟨(.type "function"), none, (.func ⟨"_law_one", "_law_one", wp_s30, (.stmts wb_s30), ws_s30, 3, [], Value.none, Value.none, Value.none, (.str "law_nt0101_01" 466), none, (.ref 213), Value.none, 0⟩), (List.toArray [])⟩) ::
  ((nat_lit 215), ⟨(.type "tuple"), none, (.seq (List.toArray []) 0), (List.toArray [])⟩) ::
  ((nat_lit 217), ⟨(.type "tuple"), none, (.seq (List.toArray [(.str "source" 499), (.str "way" 500)]) 0), (List.toArray [])⟩) ::
  ((nat_lit 218), ⟨(.type "tuple"), none, (.seq (List.toArray []) 0), (List.toArray [])⟩) ::
  ((nat_lit 220), ⟨(.type "code"), none, (.fields (List.toArray [(.str "_law_value" 496), (.str "_law_value" 497), (.str "/claim/cut.py" 498), (.int 202 0), (.int 1 0), (.int 0 0), (.int 0 0), (.int 3 0), (.ref 215), (.bool Bool.true), (.int 181 0), (.ref 216), Value.none, (.ref 217), (.ref 218), (.ref 219), (.int 501 0), (.int 202 0), (.str "/claim/cut.py" 502)])), (List.toArray [])⟩) ::
  ((nat_lit 221), ⟨(.type "function"), none, (.func ⟨"_law_value", "_law_value", wp_s31, (.stmts wb_s31), ws_s31, 3, [], Value.none, Value.none, Value.none, (.str "law_nt0101_01" 466), none, (.ref 220), Value.none, 0⟩), (List.toArray [])⟩) ::
  ((nat_lit 222), ⟨(.type "tuple"), none, (.seq (List.toArray []) 0), (List.toArray [])⟩) ::
  ((nat_lit 224), ⟨(.type "tuple"), none, (.seq (List.toArray [(.str "value" 507)]) 0), (List.toArray [])⟩) ::
  ((nat_lit 225), ⟨(.type "tuple"), none, (.seq (List.toArray []) 0), (List.toArray [])⟩) ::
  ((nat_lit 227), ⟨(.type "code"), none, (.fields (List.toArray [(.str "_law_class" 504), (.str "_law_class" 505), (.str "/claim/cut.py" 506), (.int 211 0), (.int 1 0), (.int 0 0), (.int 0 0), (.int 3 0), (.ref 222), (.bool Bool.true), (.int 181 0), (.ref 223), Value.none, (.ref 224), (.ref 225), (.ref 226), (.int 508 0), (.int 211 0), (.str "/claim/cut.py" 509)])), (List.toArray [])⟩) ::
  ((nat_lit 228), ⟨(.type "function"), none, (.func ⟨"_law_class", "_law_class", wp_s32, (.stmts wb_s32), ws_s32, 3, [], Value.none, Value.none, Value.none, (.str "law_nt0101_01" 466), none, (.ref 227), Value.none, 0⟩), (List.toArray [])⟩) ::
  ((nat_lit 229), ⟨(.type "tuple"), none, (.seq (List.toArray []) 0), (List.toArray [])⟩) ::
  ((nat_lit 232), ⟨(.type "code"), none, (.fields (List.toArray [(.str "_law_points" 511), (.str "_law_points" 512), (.str "/claim/cut.py" 513), (.int 217 0), (.int 2 0), (.int 0 0), (.int 0 0), (.int 3 0), (.ref 229), (.bool Bool.true), (.int 181 0), (.ref 230), Value.none, Value.none, Value.none, (.ref 231), (.int 514 0), (.int 217 0), (.str "/claim/cut.py" 515)])), (List.toArray [])⟩) ::
  ((nat_lit 233), ⟨(.type "function"), none, (.func ⟨"_law_points", "_law_points", wp_s33, (.stmts wb_s33), ws_s33, 3, [], Value.none, Value.none, Value.none, (.str "law_nt0101_01" 466), none, (.ref 232), Value.none, 0⟩), (List.toArray [])⟩) ::
  ((nat_lit 234), ⟨(.type "tuple"), none, (.seq (List.toArray []) 0), (List.toArray [])⟩) ::
  ((nat_lit 236), ⟨(.type "tuple"), none, (.seq (List.toArray [(.str "one" 520), (.str "other" 521), (.str "collation" 522)]) 0), (List.toArray [])⟩) ::
  ((nat_lit 237), ⟨(.type "tuple"), none, (.seq (List.toArray []) 0), (List.toArray [])⟩) ::
  ((nat_lit 239), ⟨(.type "code"), none, (.fields (List.toArray [(.str "_law_less" 517), (.str "_law_less" 518), (.str "/claim/cut.py" 519), (.int 227 0), (.int 3 0), (.int 0 0), (.int 0 0), (.int 3 0), (.ref 234), (.bool Bool.true), (.int 181 0), (.ref 235), Value.none, (.ref 236), (.ref 237), (.ref 238), (.int 523 0), (.int 227 0), (.str "/claim/cut.py" 524)])), (List.toArray [])⟩) ::
  ((nat_lit 240), ⟨(.type "function"), none, (.func ⟨"_law_less", "_law_less", wp_s34, (.stmts wb_s34), ws_s34, 3, [], Value.none, Value.none, Value.none, (.str "law_nt0101_01" 466), none, (.ref 239), Value.none, 0⟩), (List.toArray [])⟩) ::
  ((nat_lit 241), ⟨(.type "tuple"), none, (.seq (List.toArray []) 0), (List.toArray [])⟩) ::
  ((nat_lit 243), ⟨(.type "tuple"), none, (.seq (List.toArray [(.str "value" 529)]) 0), (List.toArray [])⟩) ::
  ((nat_lit 244), ⟨(.type "tuple"), none, (.seq (List.toArray []) 0), (List.toArray [])⟩) ::
  ((nat_lit 246), ⟨(.type "code"), none, (.fields (List.toArray [(.str "_law_text" 526), (.str "_law_text" 527), (.str "/claim/cut.py" 528), (.int 231 0), (.int 1 0), (.int 0 0), (.int 0 0), (.int 3 0), (.ref 241), (.bool Bool.true), (.int 181 0), (.ref 242), Value.none, (.ref 243), (.ref 244), (.ref 245), (.int 530 0), (.int 231 0), (.str "/claim/cut.py" 531)])), (List.toArray [])⟩) ::
  ((nat_lit 247), ⟨(.type "function"), none, (.func ⟨"_law_text", "_law_text", wp_s35, (.stmts wb_s35), ws_s35, 3, [], Value.none, Value.none, Value.none, (.str "law_nt0101_01" 466), none, (.ref 246), Value.none, 0⟩), (List.toArray [])⟩) ::
  ((nat_lit 248), ⟨(.type "tuple"), none, (.seq (List.toArray []) 0), (List.toArray [])⟩) ::
  ((nat_lit 251), ⟨(.type "code"), none, (.fields (List.toArray [(.str "_law_number" 533), (.str "_law_number" 534), (.str "/claim/cut.py" 535), (.int 235 0), (.int 1 0), (.int 0 0), (.int 0 0), (.int 3 0), (.ref 248), (.bool Bool.true), (.int 181 0), (.ref 249), Value.none, Value.none, Value.none, (.ref 250), (.int 536 0), (.int 235 0), (.str "/claim/cut.py" 537)])), (List.toArray [])⟩) ::
  ((nat_lit 252), ⟨(.type "function"), none, (.func ⟨"_law_number", "_law_number", wp_s36, (.stmts wb_s36), ws_s36, 3, [], Value.none, Value.none, Value.none, (.str "law_nt0101_01" 466), none, (.ref 251), Value.none, 0⟩), (List.toArray [])⟩) ::
  ((nat_lit 253), ⟨(.type "tuple"), none, (.seq (List.toArray []) 0), (List.toArray [])⟩) ::
  ((nat_lit 255), ⟨(.type "tuple"), none, (.seq (List.toArray [(.str "name" 542), (.str "collation" 543), (.str "rows" 544), (.str "gathered" 545), (.str "row" 546), (.str "told" 547)]) 0), (List.toArray [])⟩) ::
  ((nat_lit 256), ⟨(.type "tuple"), none, (.seq (List.toArray []) 0), (List.toArray [])⟩) ::
  ((nat_lit 258), ⟨(.type "code"), none, (.fields (List.toArray [(.str "_law_gathered" 539), (.str "_law_gathered" 540), (.str "/claim/cut.py" 541), (.int 247 0), (.int 3 0), (.int 0 0), (.int 0 0), (.int 3 0), (.ref 253), (.bool Bool.true), (.int 181 0), (.ref 254), Value.none, (.ref 255), (.ref 256), (.ref 257), (.int 548 0), (.int 247 0), (.str "/claim/cut.py" 549)])), (List.toArray [])⟩) ::
  ((nat_lit 259), ⟨(.type "function"), none, (.func ⟨"_law_gathered", "_law_gathered", wp_s37, (.stmts wb_s37), ws_s37, 3, [], Value.none, Value.none, Value.none, (.str "law_nt0101_01" 466), none, (.ref 258), Value.none, 0⟩), (List.toArray [])⟩) ::
  ((nat_lit 260), ⟨(.type "tuple"), none, (.seq (List.toArray []) 0), (List.toArray [])⟩) ::
  ((nat_lit 262), ⟨(.type "tuple"), none, (.seq (List.toArray [(.str "values" 554), (.str "collation" 555), (.str "is_least" 556), (.str "best" 557), (.str "value" 558)]) 0), (List.toArray [])⟩) ::
  ((nat_lit 263), ⟨(.type "tuple"), none, (.seq (List.toArray []) 0), (List.toArray [])⟩) ::
  ((nat_lit 265), ⟨(.type "code"), none, (.fields (List.toArray [(.str "_law_best" 551), (.str "_law_best" 552), (.str "/claim/cut.py" 553), (.int 256 0), (.int 3 0), (.int 0 0), (.int 0 0), (.int 3 0), (.ref 260), (.bool Bool.true), (.int 181 0), (.ref 261), Value.none, (.ref 262), (.ref 263), (.ref 264), (.int 559 0), (.int 256 0), (.str "/claim/cut.py" 560)])), (List.toArray [])⟩) ::
  ((nat_lit 266), ⟨(.type "function"), none, (.func ⟨"_law_best", "_law_best", wp_s38, (.stmts wb_s38), ws_s38, 3, [], Value.none, Value.none, Value.none, (.str "law_nt0101_01" 466), none, (.ref 265), Value.none, 0⟩), (List.toArray [])⟩) ::
  ((nat_lit 267), ⟨(.type "tuple"), none, (.seq (List.toArray []) 0), (List.toArray [])⟩) ::
  ((nat_lit 269), ⟨(.type "tuple"), none, (.seq (List.toArray [(.str "one" 565), (.str "other" 566), (.str "collation" 567)]) 0), (List.toArray [])⟩) ::
  ((nat_lit 270), ⟨(.type "tuple"), none, (.seq (List.toArray []) 0), (List.toArray [])⟩) ::
  ((nat_lit 272), ⟨(.type "code"), none, (.fields (List.toArray [(.str "_law_alike" 562), (.str "_law_alike" 563), (.str "/claim/cut.py" 564), (.int 264 0), (.int 3 0), (.int 0 0), (.int 0 0), (.int 3 0), (.ref 267), (.bool Bool.true), (.int 181 0), (.ref 268), Value.none, (.ref 269), (.ref 270), (.ref 271), (.int 568 0), (.int 264 0), (.str "/claim/cut.py" 569)])), (List.toArray [])⟩) ::
  ((nat_lit 273), ⟨(.type "function"), none, (.func ⟨"_law_alike", "_law_alike", wp_s39, (.stmts wb_s39), ws_s39, 3, [], Value.none, Value.none, Value.none, (.str "law_nt0101_01" 466), none, (.ref 272), Value.none, 0⟩), (List.toArray [])⟩) ::
  ((nat_lit 274), ⟨(.type "tuple"), none, (.seq (List.toArray []) 0), (List.toArray [])⟩) ::
  ((nat_lit 277), ⟨(.type "code"), none, (.fields (List.toArray [(.str "_law_counts_right" 571), (.str "_law_counts_right" 572), (.str "/claim/cut.py" 573), (.int 268 0), (.int 1 0), (.int 0 0), (.int 0 0), (.int 3 0), (.ref 274), (.bool Bool.true), (.int 181 0), (.ref 275), Value.none, Value.none, Value.none, (.ref 276), (.int 574 0), (.int 268 0), (.str "/claim/cut.py" 575)])), (List.toArray [])⟩) ::
  ((nat_lit 278), ⟨(.type "function"), none, (.func ⟨"_law_counts_right", "_law_counts_right", wp_s40, (.stmts wb_s40), ws_s40, 3, [], Value.none, Value.none, Value.none, (.str "law_nt0101_01" 466), none, (.ref 277), Value.none, 0⟩), (List.toArray [])⟩) ::
  ((nat_lit 279), ⟨(.type "tuple"), none, (.seq (List.toArray []) 0), (List.toArray [])⟩) ::
  ((nat_lit 282), ⟨(.type "code"), none, (.fields (List.toArray [(.str "_law_bests_right" 577), (.str "_law_bests_right" 578), (.str "/claim/cut.py" 579), (.int 279 0), (.int 2 0), (.int 0 0), (.int 0 0), (.int 3 0), (.ref 279), (.bool Bool.true), (.int 181 0), (.ref 280), Value.none, Value.none, Value.none, (.ref 281), (.int 580 0), (.int 279 0), (.str "/claim/cut.py" 581)])), (List.toArray [])⟩) ::
  ((nat_lit 283), ⟨(.type "function"), none, (.func ⟨"_law_bests_right", "_law_bests_right", wp_s41, (.stmts wb_s41), ws_s41, 3, [], Value.none, Value.none, Value.none, (.str "law_nt0101_01" 466), none, (.ref 282), Value.none, 0⟩), (List.toArray [])⟩) ::
  ((nat_lit 284), ⟨(.type "tuple"), none, (.seq (List.toArray []) 0), (List.toArray [])⟩) ::
  ((nat_lit 287), ⟨(.type "code"), none, (.fields (List.toArray [(.str "_law_joined_right" 583), (.str "_law_joined_right" 584), (.str "/claim/cut.py" 585), (.int 288 0), (.int 2 0), (.int 0 0), (.int 0 0), (.int 3 0), (.ref 284), (.bool Bool.true), (.int 181 0), (.ref 285), Value.none, Value.none, Value.none, (.ref 286), (.int 586 0), (.int 288 0), (.str "/claim/cut.py" 587)])), (List.toArray [])⟩) ::
  ((nat_lit 288), ⟨(.type "function"), none, (.func ⟨"_law_joined_right", "_law_joined_right", wp_s42, (.stmts wb_s42), ws_s42, 3, [], Value.none, Value.none, Value.none, (.str "law_nt0101_01" 466), none, (.ref 287), Value.none, 0⟩), (List.toArray [])⟩) ::
  ((nat_lit 289), ⟨(.type "tuple"), none, (.seq (List.toArray []) 0), (List.toArray [])⟩) ::
  ((nat_lit 292), ⟨(.type "code"), none, (.fields (List.toArray [(.str "_law_great_right" 589), (.str "_law_great_right" 590), (.str "/claim/cut.py" 591), (.int 299 0), (.int 1 0), (.int 0 0), (.int 0 0), (.int 3 0), (.ref 289), (.bool Bool.true), (.int 181 0), (.ref 290), Value.none, Value.none, Value.none, (.ref 291), (.int 592 0), (.int 299 0), (.str "/claim/cut.py" 593)])), (List.toArray [])⟩) ::
  ((nat_lit 293), ⟨(.type "function"), none, (.func ⟨"_law_great_right", "_law_great_right", wp_s43, (.stmts wb_s43), ws_s43, 3, [], Value.none, Value.none, Value.none, (.str "law_nt0101_01" 466), none, (.ref 292), Value.none, 0⟩), (List.toArray [])⟩) ::
  ((nat_lit 294), ⟨(.type "tuple"), none, (.seq (List.toArray []) 0), (List.toArray [])⟩) ::
  ((nat_lit 297), ⟨(.type "code"), none, (.fields (List.toArray [(.str "law" 595), (.str "law" 596), (.str "/claim/cut.py" 597), (.int 305 0), (.int 1 0), (.int 0 0), (.int 0 0), (.int 3 0), (.ref 294), (.bool Bool.true), (.int 181 0), (.ref 295), Value.none, Value.none, Value.none, (.ref 296), (.int 598 0), (.int 305 0), (.str "/claim/cut.py" 599)])), (List.toArray [])⟩) ::
  ((nat_lit 298), ⟨(.type "function"), none, (.func ⟨"law", "law", wp_s44, (.stmts wb_s44), ws_s44, 3, [], Value.none, Value.none, Value.none, (.str "law_nt0101_01" 466), none, (.ref 297), Value.none, 0⟩), (List.toArray [])⟩) :: []
noncomputable def heap : Params → Frag := by
  refine (?f : Hold heapRaw → (Params → Frag)) Hold.any
  intro h
  delta heapRaw wp_m1_0 wb_m1_0 ws_m1_0 wp_s11 wb_s11 ws_s11 wp_s12 wb_s12 ws_s12 wp_s13 wb_s13 ws_s13 wp_s14 wb_s14 ws_s14 wp_s15 wb_s15 ws_s15 wp_s16 wb_s16 ws_s16 wp_s17 wb_s17 ws_s17 wp_s18 wb_s18 ws_s18 wp_s19 wb_s19 ws_s19 wp_s20 wb_s20 ws_s20 wp_s21 wb_s21 ws_s21 wp_s22 wb_s22 ws_s22 wp_s23 wb_s23 ws_s23 wp_s25 wb_s25 ws_s25 wp_m26_0 wb_m26_0 ws_m26_0 wp_m26_1 wb_m26_1 ws_m26_1 wp_m26_2 wb_m26_2 ws_m26_2 wp_s28 wb_s28 ws_s28 wp_s29 wb_s29 ws_s29 wp_s30 wb_s30 ws_s30 wp_s31 wb_s31 ws_s31 wp_s32 wb_s32 ws_s32 wp_s33 wb_s33 ws_s33 wp_s34 wb_s34 ws_s34 wp_s35 wb_s35 ws_s35 wp_s36 wb_s36 ws_s36 wp_s37 wb_s37 ws_s37 wp_s38 wb_s38 ws_s38 wp_s39 wb_s39 ws_s39 wp_s40 wb_s40 ws_s40 wp_s41 wb_s41 ws_s41 wp_s42 wb_s42 ws_s42 wp_s43 wb_s43 ws_s43 wp_s44 wb_s44 ws_s44 at h
  change Hold ?x at h
  exact ?x
def dQ : Stmt → Pos
  | .FunctionDef _ _ _ _ _ _ _ _ _ p => p
  | _ => ⟨0, 0, 0, 0⟩
/-! the top run once, by the kernel; the head of the law -/
noncomputable def view : Program := { rowP with main := { rowP.main with body := [1, 2, 3, 5, 6, 7, 8, 9, 10, 11, 12, 13, 14, 15, 16, 17, 19, 20, 21, 22, 23, 25, 26, 28, 29, 30, 31, 32, 33, 34, 35, 36, 37, 38, 39, 40, 41, 42, 43, 44].map (nth rowP.main.body) } }
abbrev lvals : List (Str × WData) := [(Str.ofString "MIN_INT", WData.int (-9223372036854775808)), (Str.ofString "MAX_INT", WData.int 9223372036854775807), (Str.ofString "REPLACEMENT", WData.str ⟨#[65533]⟩)]
abbrev loose : List Str := [Str.ofString "MIN_INT", Str.ofString "MAX_INT", Str.ofString "STORAGE_RANKS", Str.ofString "REPLACEMENT", Str.ofString "compare_values"]
theorem heap_keys (P : Params) : ([2, 3, 15, 22, 24, 25, 27, 28, 29, 30, 31, 32, 35, 42, 43, 44, 47, 54, 55, 56, 59, 60, 62, 63, 65, 66, 67, 69, 70, 72, 73, 74, 76, 77, 79, 80, 81, 83, 84, 86, 87, 88, 90, 91, 93, 94, 95, 97, 98, 100, 101, 102, 104, 105, 107, 108, 109, 110, 112, 113, 115, 116, 117, 119, 120, 122, 123, 124, 126, 127, 129, 130, 131, 133, 134, 136, 137, 138, 140, 141, 143, 144, 145, 147, 148, 150, 151, 152, 154, 155, 157, 158, 166, 168, 169, 171, 172, 173, 175, 176, 178, 179, 180, 182, 183, 185, 186, 187, 188, 189, 190, 191, 194, 196, 197, 199, 200, 201, 203, 204, 206, 207, 208, 210, 211, 213, 214, 215, 217, 218, 220, 221, 222, 224, 225, 227, 228, 229, 232, 233, 234, 236, 237, 239, 240, 241, 243, 244, 246, 247, 248, 251, 252, 253, 255, 256, 258, 259, 260, 262, 263, 265, 266, 267, 269, 270, 272, 273, 274, 277, 278, 279, 282, 283, 284, 287, 288, 289, 292, 293, 294, 297, 298] : List Addr) = (heap P).map (·.1) := by kernel_rfl
noncomputable abbrev hook : Hook := kHook heap [2, 3, 15, 22, 24, 25, 27, 28, 29, 30, 31, 32, 35, 42, 43, 44, 47, 54, 55, 56, 59, 60, 62, 63, 65, 66, 67, 69, 70, 72, 73, 74, 76, 77, 79, 80, 81, 83, 84, 86, 87, 88, 90, 91, 93, 94, 95, 97, 98, 100, 101, 102, 104, 105, 107, 108, 109, 110, 112, 113, 115, 116, 117, 119, 120, 122, 123, 124, 126, 127, 129, 130, 131, 133, 134, 136, 137, 138, 140, 141, 143, 144, 145, 147, 148, 150, 151, 152, 154, 155, 157, 158, 166, 168, 169, 171, 172, 173, 175, 176, 178, 179, 180, 182, 183, 185, 186, 187, 188, 189, 190, 191, 194, 196, 197, 199, 200, 201, 203, 204, 206, 207, 208, 210, 211, 213, 214, 215, 217, 218, 220, 221, 222, 224, 225, 227, 228, 229, 232, 233, 234, 236, 237, 239, 240, 241, 243, 244, 246, 247, 248, 251, 252, 253, 255, 256, 258, 259, 260, 262, 263, 265, 266, 267, 269, 270, 272, 273, 274, 277, 278, 279, 282, 283, 284, 287, 288, 289, 292, 293, 294, 297, 298] heap_keys
abbrev rowO : OpenRow := PySem.Challenge.rw_nt0101_01.row
noncomputable abbrev xt (s : Shared) : Bool := xlAt view lvals s && recOk (RowW.records rowO.toRowW) s
theorem lookF (w : World) : (fencedOpening treeTable rowP w 4248).map (fun s₀ => (topFrom treeTable rowP (w.withFollow "special-get-raises" false) 4248 s₀).map (fun s => (openSeen view loose (importedModules rowP.main.body) xt true s, hook.obs s))) =
    some (some (openGood view loose, hook.val (w.withFollow "special-get-raises" false))) := by kernel_rfl
theorem lookT (w : World) : (fencedOpening treeTable rowP w 4248).map (fun s₀ => (topFrom treeTable rowP (w.withFollow "special-get-raises" true) 4248 s₀).map (fun s => (openSeen view loose (importedModules rowP.main.body) xt true s, hook.obs s))) =
    some (some (openGood view loose, hook.val (w.withFollow "special-get-raises" true))) := by kernel_rfl
theorem leftO : LeftO rowP view loose xt hook.obs hook.val 4248 := LeftO.of_split "special-get-raises" fun w => by
  have a := lookF w
  have b := lookT w
  cases q : fencedOpening treeTable rowP w 4248 with
  | none => rw [q] at a; cases a
  | some s₀ =>
    rw [q] at a b
    rw [Option.map_some, Option.some.injEq] at a b
    rw [Option.map_some, a, b]
noncomputable def lawRec : DefRec := by
  refine (?f : Hold (DefRec.mk (Str.ofString "law") wp_s44 wb_s44 ws_s44 (dQ (st 44))) → DefRec) Hold.any
  intro h
  conv at h => arg 1; arg 5; whnf
  delta wp_s44 wb_s44 ws_s44 at h
  change Hold ?x at h
  exact ?x
theorem head (h : WalkO view loose (XL view lvals) hook.says rowO.toRowW lawRec [] fun f vs => PySem.call f vs) : PySem.Challenge.rw_nt0101_01.Holds := by
  refine holds_law (by decide +kernel) fun said => ?_
  exact holds_open (r := rowO) (q := view) (loose := loose) (Xt := xt) (XP := XL view lvals) (Yf := hook.obs) (Ya := hook.val) (YP := hook.says) (d := lawRec) (kwd := []) (N := 4248) leftO hook.of hook.keeps (fun s e => xl_of s (Bool.and_eq_true_iff.mp e).1) XL.keeps
    (by kernel_rfl) (by kernel_rfl) (by kernel_rfl) (fun s e => recFacts_of (Bool.and_eq_true_iff.mp e).2) (by rfl) said (by decide +kernel) ⟨rfl, rfl, rfl, rfl, rfl, by decide +kernel⟩ (by w_witness2) h
-- part NtA
abbrev Led := List (Addr × Obj)
abbrev Loc := List (Str × Value)

/-- membership, for the walk -/
inductive Mm {α : Type} (a : α) : List α → Prop
  | head {r : List α} : Mm a (a :: r)
  | tail {b : α} {r : List α} : Mm a r → Mm a (b :: r)
theorem Mm.mem {α : Type} {a : α} {l : List α} (h : Mm a l) : a ∈ l := by
  induction h with
  | head => exact .head _
  | tail _ ih => exact .tail _ ih
theorem Mm.of {α : Type} {a : α} {l : List α} (h : a ∈ l) : Mm a l := by
  induction h with
  | head => exact .head
  | tail _ _ ih => exact .tail ih
/-- the locals behind a store: what stood under the name goes -/
inductive Sto (x : Str) : Loc → Loc → Prop
  | nil : Sto x [] []
  | keep {k : Str} {v : Value} {r r' : Loc} : k ≠ x → Sto x r r' → Sto x ((k, v) :: r) ((k, v) :: r')
  | drop {p : Str × Value} {r r' : Loc} : Sto x r r' → Sto x (p :: r) r'
theorem Sto.sub {x : Str} {l l' : Loc} (h : Sto x l l') : ∀ p, Mm p l' → Mm p l ∧ p.1 ≠ x := by
  induction h with
  | nil => intro p hp; cases hp
  | keep ne _ ih =>
    intro p hp
    cases hp with
    | head => exact ⟨.head, ne⟩
    | tail hp => exact ⟨.tail (ih p hp).1, (ih p hp).2⟩
  | drop _ ih => exact fun p hp => ⟨.tail (ih p hp).1, (ih p hp).2⟩

def Has (m : Str → Option Value) (l : Loc) : Prop := ∀ x v, Mm (x, v) l → m x = some v

/-- the frame's map of names, and the outer frames' name spaces as they stand -/
structure St where
  m : Str → Option Value
  u : Led
abbrev Exc := Shared → Value → Shared → Prop
/-- the same objects, up to their slots -/
inductive SameSl : Led → Led → Prop
  | nil : SameSl [] []
  | cons {a : Addr} {o o' : Obj} {r r' : Led} : (∃ sl, o' = { o with slots := sl }) → (∀ vs, o.data ≠ .fields vs) → SameSl r r' → SameSl ((a, o) :: r) ((a, o') :: r')
theorem SameSl.right {a b : Led} (h : SameSl a b) : SameSl b b := by
  induction h with
  | nil => exact .nil
  | cons e d _ ih =>
    obtain ⟨sl, rfl⟩ := e
    exact .cons ⟨sl, rfl⟩ d ih
theorem SameSl.trans {a b d : Led} (h : SameSl a b) (k : SameSl b d) : SameSl a d := by
  induction h generalizing d with
  | nil => exact k
  | cons e dd _ ih =>
    cases k with
    | cons e' d' k =>
      obtain ⟨sl, rfl⟩ := e
      obtain ⟨sl', rfl⟩ := e'
      exact .cons ⟨sl', rfl⟩ dd (ih k)
theorem SameSl.keys {a b : Led} (h : SameSl a b) : a.map (·.1) = b.map (·.1) := by
  induction h with
  | nil => rfl
  | cons _ _ _ ih => rw [List.map_cons, List.map_cons, ih]
theorem SameSl.data {a b : Led} (h : SameSl a b) : ∀ p ∈ b, ∀ vs, p.2.data ≠ .fields vs := by
  induction h with
  | nil => intro p hp; cases hp
  | cons e d _ ih =>
    obtain ⟨sl, rfl⟩ := e
    intro p hp
    rcases List.mem_cons.mp hp with rfl | hp
    · exact d
    · exact ih p hp

structure Cx (pr : Program) (w : World) (K : Frag) (sc : Scope) where
  A : Around
  frs : List Env
  outs : Led
  h₀ : Heap
  L : Addr
  cells : List (Str × Addr)
  qual : Str
  func : Option Addr
  code : Value
  frame : Option Addr
  p : Program
  loose : List Str
  mean : ExcName → Option Value
  mg : Str → Option Value
  mb : Str → Option Value
  room : Nat
  hk : sc.kind = .function
  hA : A.frames = some frs
  hfr : ∀ e ∈ frs, e.scope.kind ≠ .module ∧ ∃ a, e.frame = some a ∧ (a = L ∨ a ∈ outs.map (·.1))
  hh : A.handled = none
  hd : A.depth + room ≤ 900
  hu : A.units + 30 * room ≤ 9000
  X : K.In h₀
  T : Top p loose mean mg mb h₀

section
variable {pr : Program} {w : World} {K : Frag} {sc : Scope}

def Cx.env (c : Cx pr w K sc) : Env :=
  { scope := sc, locals := c.L, globals := mainGlobals, cells := c.cells, qual := c.qual, func := c.func, code := c.code, frame := c.frame, builtins := builtinsNs }

structure LedOk (c : Cx pr w K sc) (h : Heap) (n u : Led) : Prop where
  N : News c.h₀ c.L h (n ++ u)
  U : ((n ++ u).map (·.1)).Nodup
  S : SameSl c.outs u

structure Rest (s s' : Shared) : Prop where
  gens : s'.gens = s.gens
  drawn : s'.drawn = s.drawn
  os : s'.os = s.os
theorem Rest.refl (s : Shared) : Rest s s := ⟨rfl, rfl, rfl⟩
theorem Rest.trans {a b d : Shared} (x : Rest a b) (y : Rest b d) : Rest a d := ⟨y.gens.trans x.gens, y.drawn.trans x.drawn, y.os.trans x.os⟩
theorem Rest.with {s₀ s : Shared} {h : Heap} {t : Nat} (x : Rest s₀ s) : Rest s₀ { s with heap := h, toks := t } := ⟨x.gens, x.drawn, x.os⟩
theorem Rest.withH {s₀ s : Shared} {h : Heap} (x : Rest s₀ s) : Rest s₀ { s with heap := h } := ⟨x.gens, x.drawn, x.os⟩
theorem Rest.withT {s₀ s : Shared} {t : Nat} (x : Rest s₀ s) : Rest s₀ { s with toks := t } := ⟨x.gens, x.drawn, x.os⟩

structure At (c : Cx pr w K sc) (s₀ s : Shared) (m : St) (l : Loc) (n : Led) : Prop where
  R : Rest s₀ s
  F : Fr c.h₀ c.L s.heap m.m
  H : Has m.m l
  O : LedOk c s.heap n m.u
theorem At.M {c : Cx pr w K sc} {s₀ s : Shared} {m : St} {l : Loc} {n : Led} (a : At c s₀ s m l n) : News c.h₀ c.L s.heap (n ++ m.u) := a.O.N
theorem At.N {c : Cx pr w K sc} {s₀ s : Shared} {m : St} {l : Loc} {n : Led} (a : At c s₀ s m l n) : News c.h₀ c.L s.heap n := fun p hp => a.O.N p (List.mem_append_left _ hp)
theorem At.toks {c : Cx pr w K sc} {s₀ s : Shared} {m : St} {l : Loc} {n : Led} (a : At c s₀ s m l n) (t : Nat) : At c s₀ { s with toks := t } m l n := ⟨a.R.withT, a.F, a.H, a.O⟩

def End (c : Cx pr w K sc) (s₀ : Shared) (P : Loc → Led → Prop) (s : Shared) : Prop := ∃ m l n, At c s₀ s m l n ∧ P l n

/-- the triple -/
def W {α : Type} (t : Sem α) (c : Cx pr w K sc) (l : Loc) (n : Led) (Q : α → Loc → Led → Prop) (X : Exc) : Prop :=
  ∀ s₀ s m, At c s₀ s m l n → wpAny (model pr w) c.A t (fun a s' => End c s₀ (Q a) s') (X s₀) s

variable {α β : Type} {c : Cx pr w K sc} {l : Loc} {n : Led} {X : Exc}

theorem W.pure {a : α} {Q : α → Loc → Led → Prop} (h : Q a l n) : W (pure a) c l n Q X := fun _ _ m z => wpAny_pure ⟨m, l, n, z, h⟩
theorem W.bind {t : Sem α} {f : α → Sem β} {Q : β → Loc → Led → Prop} (h : W t c l n (fun a l n => W (f a) c l n Q X) X) : W (t >>= f) c l n Q X :=
  fun s₀ s m z => wpAny_bind (wpAny_mono (h s₀ s m z) (fun _ s₁ ⟨m₁, _, _, z₁, q⟩ => q s₀ s₁ m₁ z₁) fun _ _ e => e)
theorem W.mono {t : Sem α} {Q Q' : α → Loc → Led → Prop} {X' : Exc} (h : W t c l n Q X) (hQ : ∀ a l n, Q a l n → Q' a l n) (hX : ∀ s₀ e s, X s₀ e s → X' s₀ e s) : W t c l n Q' X' :=
  fun s₀ s m z => wpAny_mono (h s₀ s m z) (fun a _ ⟨m₁, l₁, n₁, z₁, q⟩ => ⟨m₁, l₁, n₁, z₁, hQ a l₁ n₁ q⟩) (hX s₀)
theorem W.quiet {t : Sem α} {Q : α → Loc → Led → Prop} (h : W t c l n Q (fun _ _ _ => False)) : W t c l n Q X := h.mono (fun _ _ _ q => q) fun _ _ _ f => f.elim
theorem W.of_eq {t t' : Sem α} {Q : α → Loc → Led → Prop} (e : t = t') (h : W t' c l n Q X) : W t c l n Q X := e ▸ h
theorem W.holding {vs : List Value} {t : Sem α} {Q : α → Loc → Led → Prop} (h : W t c l n Q X) : W (holding vs t) c l n Q X := fun s₀ s m z => wpAny_holding (h s₀ s m z)
theorem W.standAt {pos : Pos} {Q : Unit → Loc → Led → Prop} (h : Q () l n) : W (standAt pos) c l n Q X := fun _ _ m z => wpAny_standAt ⟨m, l, n, z, h⟩
theorem Has.sub {m : Str → Option Value} {l l' : Loc} (h : Has m l) (k : ∀ p, Mm p l' → Mm p l) : Has m l' := fun x v e => h x v (k _ e)
/-- a first tree, then what stands behind it at any state -/
theorem W.use {t : Sem α} {Q : α → Loc → Led → Prop} (h : W t c l n Q X) {s₀ s : Shared} {m : St} (z : At c s₀ s m l n) {P : α → Shared → Prop}
    (k : ∀ a s₁ m₁ l₁ n₁, At c s₀ s₁ m₁ l₁ n₁ → Q a l₁ n₁ → P a s₁) : wpAny (model pr w) c.A t P (X s₀) s :=
  wpAny_mono (h s₀ s m z) (fun a s₁ ⟨m₁, l₁, n₁, z₁, q⟩ => k a s₁ m₁ l₁ n₁ z₁ q) fun _ _ e => e

theorem At.end {s₀ s : Shared} {m : St} (z : At c s₀ s m l n) {P : Loc → Led → Prop} (h : P l n) : End c s₀ P s := ⟨m, l, n, z, h⟩
theorem At.set {s₀ s : Shared} {m : St} (z : At c s₀ s m l n) {h' : Heap} {t : Nat} {x : Str} {v : Value} {l' : Loc} (hs : Sto x l l') (F : Fr c.h₀ c.L h' (fun y => if y = x then some v else m.m y)) (N : News c.h₀ c.L h' (n ++ m.u)) :
    At c s₀ { s with heap := h', toks := t } ⟨fun y => if y = x then some v else m.m y, m.u⟩ ((x, v) :: l') n := by
  refine ⟨z.R.with, F, fun y u e => ?_, ⟨N, z.O.U, z.O.S⟩⟩
  cases e with
  | head => exact if_pos rfl
  | tail e =>
    have q := hs.sub _ e
    show (if y = x then some v else m.m y) = some u
    rw [if_neg q.2]
    exact z.H y u q.1
theorem At.same {s₀ s : Shared} {m : St} (z : At c s₀ s m l n) {h' : Heap} {t : Nat} (F : Fr c.h₀ c.L h' m.m) (N : News c.h₀ c.L h' (n ++ m.u)) : At c s₀ { s with heap := h', toks := t } m l n := ⟨z.R.with, F, z.H, ⟨N, z.O.U, z.O.S⟩⟩
theorem At.new {s₀ s : Shared} {m : St} (z : At c s₀ s m l n) {h' : Heap} {t : Nat} {a : Addr} {o : Obj} (F : Fr c.h₀ c.L h' m.m) (N : News c.h₀ c.L h' ((a, o) :: (n ++ m.u))) (hlt : ∀ p ∈ n ++ m.u, p.1 < a) :
    At c s₀ { s with heap := h', toks := t } m l ((a, o) :: n) :=
  ⟨z.R.with, F, z.H, ⟨N, by rw [List.cons_append, List.map_cons]; exact List.nodup_cons.mpr ⟨fun hm => by obtain ⟨p, hp, e⟩ := List.mem_map.mp hm; exact absurd (hlt p hp) (by rw [e]; exact Nat.lt_irrefl _), z.O.U⟩, z.O.S⟩⟩
theorem At.push {s₀ s : Shared} {m : St} (z : At c s₀ s m l n) {t : Nat} (o : Obj) (hf : o.isFreed = false := by rfl) : At c s₀ { s with heap := s.heap.push o, toks := t } m l ((s.heap.objs.size, o) :: n) :=
  z.new (z.F.push o) (News.push z.F z.M o hf) fun p hp => Heap.lt_size (z.M p hp).1

/-- the place of an object in the ledger -/
inductive Put : Led → Addr → Obj → (Obj → Led) → Prop
  | head {a o r} : Put ((a, o) :: r) a o (fun o' => (a, o') :: r)
  | tail {p r a o C} : Put r a o C → Put (p :: r) a o (fun o' => p :: C o')
theorem Put.eq {n : Led} {a : Addr} {o : Obj} {C : Obj → Led} (h : Put n a o C) : n = C o := by
  induction h with
  | head => rfl
  | tail _ ih => exact congrArg _ ih
theorem Put.split {n : Led} {a : Addr} {o : Obj} {C : Obj → Led} (h : Put n a o C) : ∃ pre post, ∀ o', C o' = pre ++ (a, o') :: post := by
  induction h with
  | head => exact ⟨[], _, fun _ => rfl⟩
  | @tail p _ _ _ _ _ ih => obtain ⟨pre, post, e⟩ := ih; exact ⟨p :: pre, post, fun o' => congrArg (p :: ·) (e o')⟩
theorem Put.mem {n : Led} {a : Addr} {o : Obj} {C : Obj → Led} (h : Put n a o C) : (a, o) ∈ n := by
  obtain ⟨pre, post, e⟩ := h.split
  rw [h.eq, e]; simp
theorem Put.keys {n : Led} {a : Addr} {o : Obj} {C : Obj → Led} (h : Put n a o C) (o' : Obj) : (C o').map (·.1) = n.map (·.1) := by
  obtain ⟨pre, post, e⟩ := h.split
  rw [h.eq, e, e]; simp
theorem Put.of_mem {n : Led} {a : Addr} {o : Obj} (h : (a, o) ∈ n) : ∃ C, Put n a o C := by
  induction n with
  | nil => cases h
  | cons p r ih =>
    rcases List.mem_cons.mp h with e | h
    · subst e; exact ⟨_, .head⟩
    · obtain ⟨C, hC⟩ := ih h; exact ⟨_, hC.tail⟩
theorem Put.again {n : Led} {a : Addr} {o : Obj} {C : Obj → Led} (h : Put n a o C) (o' : Obj) : Put (C o') a o' C := by
  induction h with
  | head => exact .head
  | tail _ ih => exact .tail ih
theorem Put.other {n : Led} {a b : Addr} {o ob : Obj} {C : Obj → Led} (h : Put n a o C) (o' : Obj) (hb : (b, ob) ∈ n) (ne : b ≠ a) : (b, ob) ∈ C o' := by
  obtain ⟨pre, post, e⟩ := h.split
  rw [h.eq, e] at hb
  rw [e]
  rcases List.mem_append.mp hb with q | q
  · exact List.mem_append_left _ q
  · rcases List.mem_cons.mp q with q | q
    · cases q; exact absurd rfl ne
    · exact List.mem_append_right _ (.tail _ q)
theorem Put.upd {n : Led} {a : Addr} {o : Obj} {C : Obj → Led} (h : Put n a o C) (o' : Obj) (hu : (n.map (·.1)).Nodup) : Upd a o o' n (C o') := by
  induction h with
  | @head a o r =>
    refine .head fun p hp => ?_
    rw [List.map_cons] at hu
    intro e
    exact (List.nodup_cons.mp hu).1 (by rw [← e]; exact List.mem_map.mpr ⟨p, hp, rfl⟩)
  | @tail p r a o C hr ih =>
    rw [List.map_cons] at hu
    refine .tail ?_ (ih (List.nodup_cons.mp hu).2)
    intro e
    exact (List.nodup_cons.mp hu).1 (by rw [e]; exact List.mem_map.mpr ⟨_, hr.mem, rfl⟩)
theorem Put.app {n u : Led} {a : Addr} {o : Obj} {C : Obj → Led} (h : Put n a o C) : Put (n ++ u) a o (fun o' => C o' ++ u) := by
  induction h with
  | head => exact .head
  | tail _ ih => exact .tail ih
theorem At.put {s₀ s : Shared} {m : St} (z : At c s₀ s m l n) {h' : Heap} {t : Nat} {a : Addr} {o o' : Obj} {C : Obj → Led} (hp : Put n a o C) (F : Fr c.h₀ c.L h' m.m) (N : News c.h₀ c.L h' (C o' ++ m.u)) :
    At c s₀ { s with heap := h', toks := t } m l (C o') := ⟨z.R.with, F, z.H, ⟨N, by have := hp.app.keys (n := n ++ m.u) o'; rw [this]; exact z.O.U, z.O.S⟩⟩
theorem At.putH {s₀ s : Shared} {m : St} (z : At c s₀ s m l n) {h' : Heap} {a : Addr} {o o' : Obj} {C : Obj → Led} (hp : Put n a o C) (F : Fr c.h₀ c.L h' m.m) (N : News c.h₀ c.L h' (C o' ++ m.u)) :
    At c s₀ { s with heap := h' } m l (C o') := ⟨z.R.withH, F, z.H, ⟨N, by have := hp.app.keys (n := n ++ m.u) o'; rw [this]; exact z.O.U, z.O.S⟩⟩
theorem At.upd {s₀ s : Shared} {m : St} (z : At c s₀ s m l n) {a : Addr} {o : Obj} {C : Obj → Led} (hp : Put n a o C) (o' : Obj) : Upd a o o' (n ++ m.u) (C o' ++ m.u) := hp.app.upd o' z.O.U
/-- a changed object of the ledger -/
theorem At.change {s₀ s : Shared} {m : St} (z : At c s₀ s m l n) {h' : Heap} {t : Nat} {a : Addr} {o o' : Obj} {C : Obj → Led} (hp : Put n a o C) (hs : Heap.ExtBut a s.heap h') (ho : h'.get? a = some o') :
    At c s₀ { s with heap := h', toks := t } m l (C o') := by
  have hin := z.N _ hp.mem
  obtain ⟨oL, es, ep, hL, r⟩ := z.F.ns
  have F : Fr c.h₀ c.L h' m.m := ⟨⟨oL, es, ep, hs _ _ (Ne.symm hin.2.1) hL, r⟩, fun b x q => hs b x (fun e => by rw [e] at q; rw [hin.2.2] at q; cases q) (z.F.keep b x q), z.F.above⟩
  refine z.put hp F fun p hq => ?_
  have U := z.upd hp o'
  obtain ⟨pre, post, e1, e2, h1, h2⟩ := U.split
  rw [e2] at hq
  rcases List.mem_append.mp hq with q | q
  · have y := z.M p (by rw [e1]; exact List.mem_append_left _ q)
    exact ⟨hs _ _ (h1 p q) y.1, y.2⟩
  · rcases List.mem_cons.mp q with rfl | q
    · exact ⟨ho, hin.2⟩
    · have y := z.M p (by rw [e1]; exact List.mem_append_right _ (.tail _ q))
      exact ⟨hs _ _ (h2 p q) y.1, y.2⟩
/-- the heap grew elsewhere -/
theorem At.ext {s₀ s : Shared} {m : St} (z : At c s₀ s m l n) {h' : Heap} {t : Nat} (hs : ∀ b o, s.heap.get? b = some o → h'.get? b = some o) : At c s₀ { s with heap := h', toks := t } m l n := by
  obtain ⟨oL, es, ep, hL, r⟩ := z.F.ns
  exact ⟨z.R.with, ⟨⟨oL, es, ep, hs _ _ hL, r⟩, fun b x q => hs b x (z.F.keep b x q), z.F.above⟩, z.H, ⟨fun p hp => ⟨hs _ _ (z.M p hp).1, (z.M p hp).2⟩, z.O.U, z.O.S⟩⟩
/-- some of the ledger, in any order -/
def Sel (n' n : Led) : Prop := (∀ p ∈ n', p ∈ n) ∧ ((n.map (·.1)).Nodup → (n'.map (·.1)).Nodup)
inductive Rm (p : Addr × Obj) : Led → Led → Prop
  | head {r : Led} : Rm p (p :: r) r
  | tail {q : Addr × Obj} {r r' : Led} : Rm p r r' → Rm p (q :: r) (q :: r')
theorem Rm.perm {p : Addr × Obj} {n n' : Led} (h : Rm p n n') : n.Perm (p :: n') := by
  induction h with
  | head => exact .refl _
  | tail _ ih => exact (ih.cons _).trans (List.Perm.swap _ _ _)
theorem Sel.refl {n : Led} : Sel n n := ⟨fun _ h => h, fun h => h⟩
theorem Sel.of_sub {n n' : Led} (h : n'.Sublist n) : Sel n' n := ⟨fun _ hp => h.subset hp, fun hu => (h.map _).nodup hu⟩
theorem Sel.trans {a b d : Led} (h : Sel a b) (k : Sel b d) : Sel a d := ⟨fun p hp => k.1 p (h.1 p hp), fun u => h.2 (k.2 u)⟩
theorem Sel.skip {p : Addr × Obj} {n n' : Led} (h : Sel n' n) : Sel n' (p :: n) := ⟨fun q hq => .tail _ (h.1 q hq), fun u => h.2 (by rw [List.map_cons] at u; exact (List.nodup_cons.mp u).2)⟩
theorem Sel.keep {p : Addr × Obj} {n n' : Led} (h : Sel n' n) : Sel (p :: n') (p :: n) := by
  refine ⟨fun q hq => ?_, fun u => ?_⟩
  · rcases List.mem_cons.mp hq with rfl | hq
    · exact .head _
    · exact .tail _ (h.1 q hq)
  · rw [List.map_cons] at u ⊢
    have u := List.nodup_cons.mp u
    refine List.nodup_cons.mpr ⟨fun hm => u.1 ?_, h.2 u.2⟩
    obtain ⟨q, hq, e⟩ := List.mem_map.mp hm
    exact List.mem_map.mpr ⟨q, h.1 q hq, e⟩
theorem Sel.of_perm {n n' : Led} (h : n.Perm n') : Sel n' n := ⟨fun p hp => h.mem_iff.mpr hp, fun u => (h.map _).nodup_iff.mp u⟩
theorem Sel.take {p : Addr × Obj} {n m r : Led} (h : Rm p n m) (k : Sel r m) : Sel (p :: r) n := (Sel.keep k).trans (Sel.of_perm h.perm)
theorem Sel.nil {n : Led} : Sel [] n := ⟨(fun _ h => by cases h), (fun _ => List.nodup_nil)⟩
theorem At.drop {s₀ s : Shared} {m : St} {l' : Loc} {n' : Led} (z : At c s₀ s m l n) (hl : ∀ p, Mm p l' → Mm p l) (hn : Sel n' n) : At c s₀ s m l' n' := by
  have sub : ∀ p ∈ n' ++ m.u, p ∈ n ++ m.u := fun p hp => by
    rcases List.mem_append.mp hp with q | q
    · exact List.mem_append_left _ (hn.1 p q)
    · exact List.mem_append_right _ q
  refine ⟨z.R, z.F, z.H.sub hl, ⟨fun p hp' => z.O.N p (sub p hp'), ?_, z.O.S⟩⟩
  have u := z.O.U
  rw [List.map_append, List.nodup_append] at u ⊢
  refine ⟨hn.2 u.1, u.2.1, fun a ha b hb => u.2.2 a ?_ b hb⟩
  obtain ⟨q, hq, e⟩ := List.mem_map.mp ha
  exact List.mem_map.mpr ⟨q, hn.1 q hq, e⟩
theorem At.inK {s₀ s : Shared} {m : St} (z : At c s₀ s m l n) : K.In s.heap := c.X.keeps z.F.keep
theorem At.hu {s₀ s : Shared} {m : St} (_z : At c s₀ s m l n) (h : 1 ≤ c.room) : c.A.units < cLine := by have := c.hu; rw [cLine_is]; omega
/-- weaken what is known -/
theorem W.weak {t : Sem α} {Q : α → Loc → Led → Prop} {l' : Loc} {n' : Led} (h : W t c l' n' Q X) (hl : ∀ p, Mm p l' → Mm p l) (hn : Sel n' n) : W t c l n Q X :=
  fun s₀ s m z => h s₀ s m (z.drop hl hn)
theorem Cx.fresh {h : Heap} {m : Str → Option Value} (F : Fr c.h₀ c.L h m) : c.h₀.get? c.L = none := by
  cases q : c.h₀.get? c.L with
  | none => rfl
  | some o => exact absurd (Nat.lt_of_lt_of_le (Heap.lt_size q) F.above) (Nat.lt_irrefl _)
/-- the frames on the stack, as the raise needs them -/
theorem At.frames {s₀ s : Shared} {m : St} (z : At c s₀ s m l n) : s.heap.FunFrames c.h₀ c.frs := by
  have key : ∀ es : List Env, (∀ e ∈ es, e.scope.kind ≠ .module ∧ ∃ a, e.frame = some a ∧ (a = c.L ∨ a ∈ c.outs.map (·.1))) → s.heap.FunFrames c.h₀ es := by
    intro es
    induction es with
    | nil => intro _; trivial
    | cons e r ih =>
      intro hy
      obtain ⟨h1, a, h2, h3⟩ := hy e (.head _)
      refine ⟨h1, ⟨a, ?_⟩, ih fun e he => hy e (.tail _ he)⟩
      rcases h3 with rfl | h3
      · obtain ⟨oL, es', ep, hL, hd, _⟩ := z.F.ns
        exact ⟨oL, h2, Cx.fresh z.F, hL, fun vs => by rw [hd]; intro q; cases q⟩
      · rw [z.O.S.keys] at h3
        obtain ⟨p, hp, rfl⟩ := List.mem_map.mp h3
        have y := z.M p (List.mem_append_right _ hp)
        exact ⟨p.2, h2, y.2.2, y.1, z.O.S.data p hp⟩
  exact key c.frs c.hfr
end
-- part NtB
section
variable {pr : Program} {w : World} {K : Frag} {sc : Scope} {c : Cx pr w K sc} {l : Loc} {n : Led} {X : Exc}

theorem lookup_of_nodup : ∀ {l : Loc} {x : Str} {v : Value}, (l.map (·.1)).Nodup → (x, v) ∈ l → l.lookup x = some v
  | (y, u) :: r, x, v, hn, h => by
    rw [List.map_cons] at hn
    rcases List.mem_cons.mp h with e | h
    · cases e; simp
    · have ne : x ≠ y := fun e => (List.nodup_cons.mp hn).1 (by rw [← e]; exact List.mem_map.mpr ⟨_, h, rfl⟩)
      rw [List.lookup_cons, show (x == y) = false by simpa using ne]
      exact lookup_of_nodup (List.nodup_cons.mp hn).2 h
def okNames (scope : Scope) (xs : List Str) : Bool :=
  decide xs.Nodup && xs.all (fun x => scope.names.lookup x == some .local) && scope.names.all (fun x => x.2 != .cell) && !scope.isCoroutine && !scope.isGenerator && scope.kind == .function
theorem okNames_spec {scope : Scope} {xs : List Str} {binds : Loc} (h : okNames scope xs = true) (e : binds.map (·.1) = xs) :
    (binds.map (·.1)).Nodup ∧ (∀ y ∈ binds, scope.names.lookup y.1 = some .local) ∧ (∀ x ∈ scope.names, x.2 ≠ .cell) ∧ scope.isCoroutine = false ∧ scope.isGenerator = false ∧ scope.kind = .function := by
  subst e
  simp only [okNames, Bool.and_eq_true, decide_eq_true_eq, List.all_eq_true, Bool.not_eq_true', beq_iff_eq, bne_iff_ne] at h
  obtain ⟨⟨⟨⟨⟨h1, h2⟩, h3⟩, h4⟩, h5⟩, h6⟩ := h
  exact ⟨h1, fun y hy => h2 y.1 (List.mem_map.mpr ⟨y, hy, rfl⟩), fun x hx => h3 x hx, h4, h5, h6⟩
def retOf : Flow → Value
  | .ret v => v
  | _ => .none
/-- what a def gives back: some of what it made may be forgotten -/
def RetK (Q : Value → Loc → Led → Prop) (l : Loc) (fl : Flow) (_ : Loc) (n' : Led) : Prop := ∃ n'', Sel n'' n' ∧ Q (retOf fl) l n''
theorem RetK.of {Q : Value → Loc → Led → Prop} {l l' : Loc} {fl : Flow} {n' n'' : Led} (h : Q (retOf fl) l n'') (hs : Sel n'' n') : RetK Q l fl l' n' := ⟨n'', hs, h⟩
theorem News.toOuter {c : Cx pr w K sc} {h₁ : Heap} {L' : Addr} {n u : Led} {oL : Obj} (N : News c.h₀ L' h₁ (n ++ (c.L, oL) :: u)) (U : ((n ++ (c.L, oL) :: u).map (·.1)).Nodup) : News c.h₀ c.L h₁ (n ++ u) ∧ ((n ++ u).map (·.1)).Nodup := by
  have U' : (((c.L, oL) :: (n ++ u)).map (·.1)).Nodup := (List.Perm.nodup_iff (List.perm_middle.map _)).mp U
  rw [List.map_cons] at U'
  have U2 := List.nodup_cons.mp U'
  refine ⟨fun p hp => ?_, U2.2⟩
  have hp' : p ∈ n ++ (c.L, oL) :: u := by
    rcases List.mem_append.mp hp with q | q
    · exact List.mem_append_left _ q
    · exact List.mem_append_right _ (.tail _ q)
  have y := N p hp'
  exact ⟨y.1, fun e => U2.1 (by rw [← e]; exact List.mem_map.mpr ⟨p, hp, rfl⟩), y.2.2⟩
theorem At.inner {s₀ s : Shared} {m : St} (z : At c s₀ s m l n) {L' : Addr} {h₁ : Heap} (hL : s.heap.objs.size ≤ L') (hk₁ : ∀ b o, s.heap.get? b = some o → h₁.get? b = some o) :
    ∃ oL, s.heap.get? c.L = some oL ∧ News c.h₀ L' h₁ (n ++ (c.L, oL) :: m.u) ∧ ((n ++ (c.L, oL) :: m.u).map (·.1)).Nodup ∧ SameSl ((c.L, oL) :: m.u) ((c.L, oL) :: m.u) := by
  obtain ⟨oL, es, ep, hoL, hLd, hLk⟩ := z.F.ns
  refine ⟨oL, hoL, fun p hp => ?_, ?_, .cons ⟨oL.slots, rfl⟩ (fun vs q => by rw [hLd] at q; cases q) z.O.S.right⟩
  · have : s.heap.get? p.1 = some p.2 ∧ c.h₀.get? p.1 = none := by
      rcases List.mem_append.mp hp with q | q
      · exact ⟨(z.N p q).1, (z.N p q).2.2⟩
      · rcases List.mem_cons.mp q with rfl | q
        · exact ⟨hoL, Cx.fresh z.F⟩
        · have y := z.M p (List.mem_append_right _ q); exact ⟨y.1, y.2.2⟩
    exact ⟨hk₁ _ _ this.1, Nat.ne_of_lt (Nat.lt_of_lt_of_le (Heap.lt_size this.1) hL), this.2⟩
  · refine (List.Perm.nodup_iff (List.perm_middle.map _)).mpr ?_
    rw [List.map_cons]
    refine List.nodup_cons.mpr ⟨fun hm => ?_, z.O.U⟩
    obtain ⟨p, hp, e⟩ := List.mem_map.mp hm
    exact (z.M p hp).2.1 e
/-- back in the outer frame -/
theorem At.outer' {sc' : Scope} {c' : Cx pr w K sc'} {s₀ s s' : Shared} {m m' : St} {n' : Led} {oL : Obj} (z : At c s₀ s m l n) (e₀ : c'.h₀ = c.h₀) (eo : c'.outs = (c.L, oL) :: m.u) (hoL : s.heap.get? c.L = some oL)
    (R : Rest s₀ s') (N : News c'.h₀ c'.L s'.heap (n' ++ m'.u)) (U : ((n' ++ m'.u).map (·.1)).Nodup) (S : SameSl c'.outs m'.u) (keep : ∀ b o, c'.h₀.get? b = some o → s'.heap.get? b = some o) : ∃ u, At c s₀ s' ⟨m.m, u⟩ l n' ∧ ∃ o', m'.u = (c.L, o') :: u := by
  rw [eo] at S
  generalize hu : m'.u = mu at S N U
  cases S with
  | @cons _ _ o' _ r' e d S =>
    obtain ⟨sl, rfl⟩ := e
    have hN : News c.h₀ c'.L s'.heap (n' ++ (c.L, { oL with slots := sl }) :: r') := by rw [← e₀]; exact N
    obtain ⟨N', U'⟩ := News.toOuter hN U
    have y := hN (c.L, { oL with slots := sl }) (List.mem_append_right _ (.head _))
    obtain ⟨oL', es, ep, hoL', r⟩ := z.F.ns
    rw [hoL] at hoL'
    cases hoL'
    exact ⟨r', ⟨R, ⟨⟨_, es, ep, y.1, r⟩, fun b o q => keep b o (by rw [e₀]; exact q), z.F.above⟩, z.H, ⟨N', U', z.O.S.trans S⟩⟩, _, rfl⟩
theorem At.outer {sc' : Scope} {c' : Cx pr w K sc'} {s₀ s s' : Shared} {m m' : St} {n' : Led} {oL : Obj} (z : At c s₀ s m l n) (e₀ : c'.h₀ = c.h₀) (eo : c'.outs = (c.L, oL) :: m.u) (hoL : s.heap.get? c.L = some oL)
    (R : Rest s₀ s') (N : News c'.h₀ c'.L s'.heap (n' ++ m'.u)) (U : ((n' ++ m'.u).map (·.1)).Nodup) (S : SameSl c'.outs m'.u) (keep : ∀ b o, c'.h₀.get? b = some o → s'.heap.get? b = some o) : ∃ u, At c s₀ s' ⟨m.m, u⟩ l n' :=
  let ⟨u, y, _⟩ := z.outer' e₀ eo hoL R N U S keep; ⟨u, y⟩
/-- an exception just made: an own object above the state `At` speaks of -/
def Making {sc' : Scope} (c' : Cx pr w K sc') (n : Led) (cls : Value) : Exc := fun s₀ e s' =>
  ∃ (m : St) (l : Loc) (n' : Led) (ea : Addr) (h : Heap) (oe : Obj) (vs : Array Value) (a0 : Value), e = .ref ea ∧ At c' s₀ { s' with heap := h } m l n' ∧ Sel n n' ∧ (∀ b o, h.get? b = some o → s'.heap.get? b = some o) ∧ h.get? ea = none ∧
    s'.heap.get? ea = some oe ∧ oe.cls = cls ∧ oe.data = .fields vs ∧ vs[1]? = some .none ∧ vs[0]? = some a0
/-- an exception on its way, come out of a def -/
def Raised (c : Cx pr w K sc) (l : Loc) (n : Led) (cls : Value) : Exc := fun s₀ e s =>
  ∃ (m : St) (ea : Addr) (B : Heap) (a0 : Value), e = .ref ea ∧ At c s₀ s m l n ∧ c.h₀.StaysIn B ∧ (∀ q ∈ n, B.get? q.1 = some q.2) ∧ (∀ e ∈ c.frs, ∀ a, e.frame = some a → B.get? a = none) ∧ Heap.FlyingW B c.frs ea cls a0 s.heap
theorem slots_of {h h' : Heap} (k : h.UpToSlots h') : ∀ {u : Led}, (∀ p ∈ u, h.get? p.1 = some p.2) → (∀ p ∈ u, ∀ vs, p.2.data ≠ .fields vs) → ∃ u', SameSl u u' ∧ ∀ p ∈ u', h'.get? p.1 = some p.2
  | [], _, _ => ⟨[], .nil, fun _ hp => nomatch hp⟩
  | (a, o) :: r, g, d => by
    obtain ⟨r', S, g'⟩ := slots_of k (u := r) (fun p hp => g p (.tail _ hp)) (fun p hp => d p (.tail _ hp))
    obtain ⟨sl, hs⟩ := k a o (g (a, o) (.head _)) (d (a, o) (.head _))
    refine ⟨(a, { o with slots := sl }) :: r', .cons ⟨sl, rfl⟩ (d (a, o) (.head _)) S, fun p hp => ?_⟩
    rcases List.mem_cons.mp hp with rfl | hp
    · exact hs
    · exact g' p hp
/-- the frames' name spaces change their slots, and all else stays -/
theorem At.slots {s₀ s : Shared} {m : St} (z : At c s₀ s m l n) {h' : Heap} {B : Heap} (hb : c.h₀.StaysIn B) (hn : ∀ q ∈ n, B.get? q.1 = some q.2) (st : B.StaysIn h') (up : s.heap.UpToSlots h') :
    ∃ u, At c s₀ { s with heap := h' } ⟨m.m, u⟩ l n := by
  obtain ⟨u', S, g⟩ := slots_of up (u := m.u) (fun p hp => (z.M p (List.mem_append_right _ hp)).1) z.O.S.data
  have keys : u'.map (·.1) = m.u.map (·.1) := S.keys.symm
  refine ⟨u', z.R.withH, ⟨up.ns z.F.ns, fun b o q => st _ _ (hb _ _ q), z.F.above⟩, z.H, ⟨fun p hp => ?_, by rw [List.map_append, keys, ← List.map_append]; exact z.O.U, z.O.S.trans S⟩⟩
  rcases List.mem_append.mp hp with q | q
  · exact ⟨st _ _ (hn _ q), (z.N p q).2⟩
  · have : p.1 ∈ m.u.map (·.1) := keys ▸ List.mem_map.mpr ⟨p, q, rfl⟩
    obtain ⟨p', hp', e⟩ := List.mem_map.mp this
    have y := z.M p' (List.mem_append_right _ hp')
    rw [e] at y
    exact ⟨g p q, y.2⟩
theorem FunFrames.rebase {h base B : Heap} : ∀ {es : List Env}, h.FunFrames base es → (∀ e ∈ es, ∀ a, e.frame = some a → B.get? a = none) → h.FunFrames B es
  | [], _, _ => trivial
  | e :: r, ⟨h1, ⟨L, o, h2, _, h3, h4⟩, h5⟩, hB => ⟨h1, ⟨L, o, h2, hB e (.head _) L h2, h3, h4⟩, FunFrames.rebase h5 fun e' he => hB e' (.tail _ he)⟩
/-- the frame is the one on top -/
def Cx.Own (c : Cx pr w K sc) : Prop := c.frame = some c.L ∧ ∃ outer, c.frs = c.env :: outer
/-- a call as the machine's code -/
def CdV (f : Value) (args : List Value) (kw : List (Str × Value)) (c : Cx pr w K sc) (l : Loc) (n : Led) (Q : Value → Loc → Led → Prop) (X : Exc) : Prop :=
  ∀ s₀ s m, At c s₀ s m l n → codeAny (model pr w) c.A (.call f ⟨args, kw⟩) (fun r s' => match r with | .ok (.ret v) => End c s₀ (Q v) s' | .ok _ => False | .error e => X s₀ e s') s
/-- a def's call, from within: its body under a frame of its own -/
theorem W.codeDefX {name qual : Str} {params : Arguments} {body : List Stmt} {scope : Scope} {dV kV doc pm cdv ct oc : Value} {an od : Option Addr} {osl : Array (Option Value)} {f : Addr} {args : List Value} {kw : List (Str × Value)} {binds : List (Str × Value)} {xs : List Str}
    {Q : Value → Loc → Led → Prop} {cls : Value} {ok : Prop}
    (ho : K.lookup f = some ⟨oc, od, .func (fnOf name qual params body scope dV kV doc pm an cdv ct), osl⟩) (hcd : codeIn K cdv qual = true)
    (hbind : ∀ s : Shared, K.In s.heap → BindsTo s (fnOf name qual params body scope dV kV doc pm an cdv ct) ⟨args, kw⟩ binds) (hxs : binds.map (·.1) = xs) (hok : okNames scope xs = true) (hroom : 1 ≤ c.room)
    (h : ∀ c' : Cx pr w K scope, c'.room + 1 = c.room → c'.Own → c'.h₀ = c.h₀ → W (execs body c'.env) c' binds n (RetK Q l) (fun s₀ e s => ok ∧ Making c' n cls s₀ e s))
    (hX : ok → ∀ s₀ e s, Raised c l n cls s₀ e s → X s₀ e s) :
    CdV (.ref f) args kw c l n Q X := by
  intro s₀ s m z
  obtain ⟨hnd, hloc, hcell, hco, hgen, hk⟩ := okNames_spec hok hxs
  have hdep := c.hd
  have hun := c.hu
  refine codeAny_call_def (fd := fnOf name qual params body scope dV kV doc pm an cdv ct) (body := body) (binds := binds) (by simp only [recursionLimit]; omega) (z.inK _ _ ho) rfl
    (c.T.nolimit.keeps z.F.keep) (codeRec_of z.inK hcd) rfl (hbind s z.inK) hcell hloc (fun h₁ hns hk₁ => ?_) hco hgen hk
  let L' := s.heap.objs.size
  obtain ⟨oL, hoL, N', U', S'⟩ := z.inner (L' := L') (Nat.le_refl _) hk₁
  have F' : Fr c.h₀ L' h₁ (fun y => binds.reverse.lookup y) := ⟨hns, fun b o e => hk₁ b o (z.F.keep b o e), Nat.le_trans z.F.above (Nat.le_of_lt z.F.ns.lt)⟩
  let env' := envOf qual scope L' f cdv
  let c' : Cx pr w K scope :=
    { A := c.A.deeper env', frs := env' :: c.frs, outs := (c.L, oL) :: m.u, h₀ := c.h₀, L := L', cells := [], qual := qual ++ ".<locals>.", func := some f, code := cdv, frame := some L', p := c.p, loose := c.loose, mean := c.mean, mg := c.mg, mb := c.mb,
      room := c.room - 1, hk := hk, hA := Around.frames_deeper c.hA, hh := c.hh, hd := (by show c.A.depth + 1 + (c.room - 1) ≤ 900; omega), hu := (by show c.A.units + 3 + 30 * (c.room - 1) ≤ 9000; omega),
      hfr := by
        intro e he
        rcases List.mem_cons.mp he with rfl | he
        · exact ⟨by show scope.kind ≠ .module; rw [hk]; decide, L', rfl, .inl rfl⟩
        · obtain ⟨h1, a, h2, h3⟩ := c.hfr e he
          refine ⟨h1, a, h2, .inr ?_⟩
          rw [List.map_cons]
          rcases h3 with rfl | h3
          · exact .head _
          · exact .tail _ (z.O.S.keys ▸ h3)
      X := c.X, T := c.T }
  have z' : At c' s₀ { s with heap := h₁, toks := s.toks + binds.length } ⟨fun y => binds.reverse.lookup y, (c.L, oL) :: m.u⟩ binds n := ⟨z.R.with, F', fun x v e => lookup_of_nodup (by rw [List.map_reverse]; unfold List.Nodup; rw [List.pairwise_reverse]; exact List.Pairwise.imp (fun h => Ne.symm h) hnd) (List.mem_reverse.mpr e.mem), ⟨N', U', S'⟩⟩
  refine wpAny_mono (h c' (by show c.room - 1 + 1 = c.room; omega) ⟨rfl, _, rfl⟩ rfl s₀ _ _ z') (fun fl s' ⟨m', l', n', y, n'', hs, q⟩ => ?_) (fun e s' q => ?_)
  · have y := y.drop (fun _ h => h) hs
    obtain ⟨u, y⟩ := At.outer (c := c) (c' := c') z rfl rfl hoL y.R y.O.N y.O.U y.O.S y.F.keep
    have fin : End c s₀ (Q (retOf fl)) s' := ⟨_, l, n'', y, q⟩
    cases fl <;> exact fin
  · obtain ⟨hok', m', l', n', ea, hp₀, oe, vs, a0, rfl, y, hs, hkp, hnew, hoe, rfl, hdat, h1, h0⟩ := q
    have y := y.drop (fun _ h => h) hs
    let fs := (env' :: c.frs).filterMap (·.frame)
    let B := hideAll hp₀ fs
    have hfs : ∀ a ∈ fs, a = L' ∨ a ∈ m'.u.map (·.1) := fun a ha => by
      obtain ⟨e, he, hf⟩ := List.mem_filterMap.mp ha
      obtain ⟨_, a', h2, h3⟩ := c'.hfr e he
      rw [hf] at h2
      cases h2
      rcases h3 with h3 | h3
      · exact .inl h3
      · exact .inr (y.O.S.keys ▸ h3)
    have hBn : ∀ e ∈ env' :: c.frs, ∀ a, e.frame = some a → B.get? a = none := fun e he a hf => hideAll_none _ (List.mem_filterMap.mpr ⟨e, he, hf⟩)
    have ff := FunFrames.rebase (B := B) y.frames hBn
    have hB0 : c.h₀.StaysIn B := fun b o e => hideAll_get _ (y.F.keep b o e) fun hm => by
      rcases hfs b hm with rfl | hm
      · have := Cx.fresh y.F; rw [e] at this; cases this
      · obtain ⟨p, hp, rfl⟩ := List.mem_map.mp hm
        have := (y.M p (List.mem_append_right _ hp)).2.2; rw [e] at this; cases this
    have hBN : ∀ q ∈ n, B.get? q.1 = some q.2 := fun q hq => hideAll_get _ (y.N q hq).1 fun hm => by
      rcases hfs q.1 hm with e | hm
      · exact (y.N q hq).2.1 e
      · obtain ⟨p, hp, e⟩ := List.mem_map.mp hm
        have := y.O.U
        rw [List.map_append] at this
        exact (List.nodup_append.mp this).2.2 _ (List.mem_map.mpr ⟨q, hq, rfl⟩) _ (List.mem_map.mpr ⟨p, hp, rfl⟩) e.symm
    have hBs : B.StaysIn s'.heap := fun b o e => hkp b o (of_hideAll _ e)
    have hBe : B.get? ea = none := by
      cases q : B.get? ea with
      | none => rfl
      | some o => have := of_hideAll _ q; rw [hnew] at this; cases this
    refine wpAny_leaving_firstW (A := c'.A) (base := B) (env := env') (outer := c.frs) (L := L') (e := ea) (oe := oe) (vs := vs) (a0 := a0) c'.hA (ff.of_keeps fun b o hb _ => ⟨o, hkp b o hb, rfl⟩) rfl hoe hBs hBe hdat h1 h0 fun h' hL => ?_
    obtain ⟨k1, ⟨_, _, k2⟩, k3, k4⟩ := hL
    have up : hp₀.UpToSlots h' := (Heap.UpToSlots.of_keeps hkp).trans k4
    obtain ⟨u, y'⟩ := y.slots (h' := h') hB0 hBN k1 up
    obtain ⟨u', y''⟩ := At.outer (c := c) (c' := c') z rfl rfl hoL y'.R y'.O.N y'.O.U y'.O.S y'.F.keep
    exact hX hok' s₀ (.ref ea) _ ⟨_, ea, B, a0, rfl, y'', hB0, hBN, fun e he => hBn e (.tail _ he), ⟨k1, hBe, k2, k3⟩⟩
theorem W.callDefX {name qual : Str} {params : Arguments} {body : List Stmt} {scope : Scope} {dV kV doc pm cdv ct oc : Value} {an od : Option Addr} {osl : Array (Option Value)} {f : Addr} {args : List Value} {kw : List (Str × Value)} {binds : List (Str × Value)} {xs : List Str}
    {Q : Value → Loc → Led → Prop} {cls : Value} {ok : Prop}
    (ho : K.lookup f = some ⟨oc, od, .func (fnOf name qual params body scope dV kV doc pm an cdv ct), osl⟩) (hcd : codeIn K cdv qual = true)
    (hbind : ∀ s : Shared, K.In s.heap → BindsTo s (fnOf name qual params body scope dV kV doc pm an cdv ct) ⟨args, kw⟩ binds) (hxs : binds.map (·.1) = xs) (hok : okNames scope xs = true) (hroom : 1 ≤ c.room)
    (h : ∀ c' : Cx pr w K scope, c'.room + 1 = c.room → c'.Own → c'.h₀ = c.h₀ → W (execs body c'.env) c' binds n (RetK Q l) (fun s₀ e s => ok ∧ Making c' n cls s₀ e s))
    (hX : ok → ∀ s₀ e s, Raised c l n cls s₀ e s → X s₀ e s) :
    W (call (.ref f) args kw) c l n Q X :=
  fun s₀ s m z => wpAny_call (W.codeDefX ho hcd hbind hxs hok hroom h hX s₀ s m z)
theorem W.callDef {name qual : Str} {params : Arguments} {body : List Stmt} {scope : Scope} {dV kV doc pm cdv ct oc : Value} {an od : Option Addr} {osl : Array (Option Value)} {f : Addr} {args : List Value} {kw : List (Str × Value)} {binds : List (Str × Value)} {xs : List Str}
    {Q : Value → Loc → Led → Prop}
    (ho : K.lookup f = some ⟨oc, od, .func (fnOf name qual params body scope dV kV doc pm an cdv ct), osl⟩) (hcd : codeIn K cdv qual = true)
    (hbind : ∀ s : Shared, K.In s.heap → BindsTo s (fnOf name qual params body scope dV kV doc pm an cdv ct) ⟨args, kw⟩ binds) (hxs : binds.map (·.1) = xs) (hok : okNames scope xs = true) (hroom : 1 ≤ c.room)
    (h : ∀ c' : Cx pr w K scope, c'.room + 1 = c.room → c'.Own → c'.h₀ = c.h₀ → W (execs body c'.env) c' binds n (RetK Q l) (fun _ _ _ => False)) :
    W (call (.ref f) args kw) c l n Q X := W.callDefX (cls := .none) (ok := False) ho hcd hbind hxs hok hroom (fun c' hr ho he => (h c' hr ho he).quiet) (fun f => f.elim)

def EvE (e : Expr) (c : Cx pr w K sc) (l : Loc) (n : Led) (Q : Value → Loc → Led → Prop) (X : Exc) : Prop := W (eval e c.env) c l n Q X
def EvS (es : List Expr) (pos : Pos) (c : Cx pr w K sc) (l : Loc) (n : Led) (Q : List Value → Loc → Led → Prop) (X : Exc) : Prop := W (spliced (backTo pos (starEach es c.env))) c l n Q X
def IsT (e : Expr) (c : Cx pr w K sc) (l : Loc) (n : Led) (Q : Bool → Loc → Led → Prop) (X : Exc) : Prop := W (isTrue e c.env (eval e c.env)) c l n Q X
def ExS (st : Stmt) (c : Cx pr w K sc) (l : Loc) (n : Led) (Q : Flow → Loc → Led → Prop) (X : Exc) : Prop := W (exec st c.env) c l n Q X
def ExL (sts : List Stmt) (c : Cx pr w K sc) (l : Loc) (n : Led) (Q : Flow → Loc → Led → Prop) (X : Exc) : Prop := W (execs sts c.env) c l n Q X
def CwK (f : Value) (first : List Value) (es : List Expr) (pos pos' : Pos) (c : Cx pr w K sc) (l : Loc) (n : Led) (Q : Value → Loc → Led → Prop) (X : Exc) : Prop := W (callWith pos f first (backTo pos' (starEach es c.env)) []) c l n Q X
def CaV (f : Value) (args : List Value) (c : Cx pr w K sc) (l : Loc) (n : Led) (Q : Value → Loc → Led → Prop) (X : Exc) : Prop := W (call f args) c l n Q X
def BiO (op : Operator) (a b : Value) (c : Cx pr w K sc) (l : Loc) (n : Led) (Q : Value → Loc → Led → Prop) (X : Exc) : Prop := W (binaryOp op a b) c l n Q X
def IpO (op : Operator) (a b : Value) (c : Cx pr w K sc) (l : Loc) (n : Led) (Q : Value → Loc → Led → Prop) (X : Exc) : Prop := W (inplaceOp op a b) c l n Q X
def CmO (op : CmpOp) (a b : Value) (c : Cx pr w K sc) (l : Loc) (n : Led) (Q : Value → Loc → Led → Prop) (X : Exc) : Prop := W (compareOp op a b) c l n Q X
def UnO (op : UnaryOp) (a : Value) (c : Cx pr w K sc) (l : Loc) (n : Led) (Q : Value → Loc → Led → Prop) (X : Exc) : Prop := W (unaryOp op a) c l n Q X
def Tru (v : Value) (c : Cx pr w K sc) (l : Loc) (n : Led) (Q : Bool → Loc → Led → Prop) (X : Exc) : Prop := W (truthy v) c l n Q X
def SbT (o i : Value) (value slice : Expr) (c : Cx pr w K sc) (l : Loc) (n : Led) (Q : Value → Loc → Led → Prop) (X : Exc) : Prop := W (subscriptTail value slice o i) c l n Q X
def GtA (v : Value) (name : Str) (c : Cx pr w K sc) (l : Loc) (n : Led) (Q : Value → Loc → Led → Prop) (X : Exc) : Prop := W (getAttr v name true) c l n Q X
def StA (v : Value) (name : Str) (x : Value) (c : Cx pr w K sc) (l : Loc) (n : Led) (Q : Unit → Loc → Led → Prop) (X : Exc) : Prop := W (setAttr v name x) c l n Q X
def StI (o i x : Value) (c : Cx pr w K sc) (l : Loc) (n : Led) (Q : Unit → Loc → Led → Prop) (X : Exc) : Prop := W (setItem o i x) c l n Q X
def GtM (v : Value) (name : Str) (pl : Sem Bool) (c : Cx pr w K sc) (l : Loc) (n : Led) (Q : Value × List Value → Loc → Led → Prop) (X : Exc) : Prop := W (getMethod v name pl) c l n Q X
def StN (x : Str) (v : Value) (c : Cx pr w K sc) (l : Loc) (n : Led) (Q : Unit → Loc → Led → Prop) (X : Exc) : Prop := W (storeName c.env x v) c l n Q X
def LdN (x : Str) (c : Cx pr w K sc) (l : Loc) (n : Led) (Q : Value → Loc → Led → Prop) (X : Exc) : Prop := W (loadName c.env x) c l n Q X
def NwL (vs : List Value) (c : Cx pr w K sc) (l : Loc) (n : Led) (Q : Value → Loc → Led → Prop) (X : Exc) : Prop := W (newList vs) c l n Q X
def NwT (vs : List Value) (c : Cx pr w K sc) (l : Loc) (n : Led) (Q : Value → Loc → Led → Prop) (X : Exc) : Prop := W (newTuple vs) c l n Q X
def AsT (t : Expr) (v : Value) (c : Cx pr w K sc) (l : Loc) (n : Led) (Q : Unit → Loc → Led → Prop) (X : Exc) : Prop := W (assign t c.env v) c l n Q X
def ItR (v : Value) (c : Cx pr w K sc) (l : Loc) (n : Led) (Q : Value → Loc → Led → Prop) (X : Exc) : Prop := W (pyIter v) c l n Q X
def NxT (v : Value) (c : Cx pr w K sc) (l : Loc) (n : Led) (Q : Option Value → Loc → Led → Prop) (X : Exc) : Prop := W (pyNext v) c l n Q X
def AlT (op : BoolOp) (es : List Expr) (c : Cx pr w K sc) (l : Loc) (n : Led) (Q : Bool → Loc → Led → Prop) (X : Exc) : Prop := W (allTrue op es c.env) c l n Q X
def TsC (ops : List CmpOp) (es : List Expr) (a : Value) (pos : Pos) (c : Cx pr w K sc) (l : Loc) (n : Led) (Q : Bool → Loc → Led → Prop) (X : Exc) : Prop := W (testChain pos a ops (evalEach es c.env)) c l n Q X

/-- what stands behind a statement, a test -/
def seqK (P : Loc → Led → Prop) (Q : Flow → Loc → Led → Prop) : Flow → Loc → Led → Prop
  | .next => P
  | .brk => Q .brk
  | .cont => Q .cont
  | .ret v => Q (.ret v)
def brK (A B : Loc → Led → Prop) : Bool → Loc → Led → Prop
  | true => A
  | false => B
theorem seqK_next {P : Loc → Led → Prop} {Q : Flow → Loc → Led → Prop} (h : P l n) : seqK P Q .next l n := h
theorem seqK_ret {P : Loc → Led → Prop} {Q : Flow → Loc → Led → Prop} {v : Value} (h : Q (.ret v) l n) : seqK P Q (.ret v) l n := h
theorem seqK_brk {P : Loc → Led → Prop} {Q : Flow → Loc → Led → Prop} (h : Q .brk l n) : seqK P Q .brk l n := h
theorem seqK_cont {P : Loc → Led → Prop} {Q : Flow → Loc → Led → Prop} (h : Q .cont l n) : seqK P Q .cont l n := h
theorem brK_true {A B : Loc → Led → Prop} (h : A l n) : brK A B true l n := h
theorem brK_false {A B : Loc → Led → Prop} (h : B l n) : brK A B false l n := h
theorem brK_dec {A B : Loc → Led → Prop} {p : Prop} [Decidable p] (h1 : p → A l n) (h2 : ¬ p → B l n) : brK A B (decide p) l n := by
  by_cases h : p
  · rw [decide_eq_true h]; exact h1 h
  · rw [decide_eq_false h]; exact h2 h
theorem brK_bool {A B : Loc → Led → Prop} {b : Bool} (h1 : b = true → A l n) (h2 : b = false → B l n) : brK A B b l n := by
  cases b
  · exact h2 rfl
  · exact h1 rfl
theorem brK_not {A B : Loc → Led → Prop} {b : Bool} (h : brK B A b l n) : brK A B (!b) l n := by cases b <;> exact h

section
variable {Q : Value → Loc → Led → Prop}
theorem EvE.local {x : Str} {pos : Pos} {v : Value} (hk : sc.names.lookup x = some .local) (hl : Mm (x, v) l) (h : Q v l n) (hd : (x == ("__debug__" : Str)) = false := by rfl) : EvE (.Name x pos) c l n Q X :=
  fun s₀ s m z => wpAny_Name (wpAny_loadName_local (env := c.env) c.hk hk z.F.ns (z.H _ _ hl) (z.end h)) hd
theorem EvE.global {x : Str} {pos : Pos} {v : Value} (hk : sc.names.lookup x = some .globalImplicit) (e : nsIn K mainGlobals x = some (some v)) (h : Q v l n) (hd : (x == ("__debug__" : Str)) = false := by rfl) : EvE (.Name x pos) c l n Q X :=
  fun s₀ s m z => Name_function_global c.hk hk (loadGlobal_global (env := c.env) (c.T.g.keeps z.F.keep) (mg_of c.X c.T.g e) (z.end h)) hd
theorem EvE.builtin {x : Str} {pos : Pos} {v : Value} (hk : sc.names.lookup x = some .globalImplicit) (e : nsIn K mainGlobals x = some none) (hv : bootBuiltins x = some v) (h : Q v l n) (hn : x ≠ "__name__" := by decide) (hd : (x == ("__debug__" : Str)) = false := by rfl) : EvE (.Name x pos) c l n Q X :=
  fun s₀ s m z => Name_function_global c.hk hk (loadGlobal_builtin (env := c.env) (c.T.g.keeps z.F.keep) (mg_none_of c.X c.T.g e) (c.T.b.keeps z.F.keep) ((c.T.builtins x hn).trans hv) (z.end h)) hd
theorem EvE.cell {x : Str} {pos : Pos} {v : Value} {b : Addr} {o : Obj} (hk : sc.names.lookup x = some .cell) (hc : c.cells.lookup x = some b) (hm : Mm (b, o) n) (ho : o.data = .cell (some v)) (h : Q v l n) (hd : (x == ("__debug__" : Str)) = false := by rfl) : EvE (.Name x pos) c l n Q X :=
  fun s₀ s m z => wpAny_Name (wpAny_loadName_cell (env := c.env) c.hk hk hc ⟨o, z.N.get hm.mem, ho⟩ (z.end h)) hd
theorem LdN.local {x : Str} {v : Value} (hk : sc.names.lookup x = some .local) (hl : Mm (x, v) l) (h : Q v l n) : LdN x c l n Q X :=
  fun s₀ s m z => wpAny_loadName_local (env := c.env) c.hk hk z.F.ns (z.H _ _ hl) (z.end h)
theorem EvE.int {i : Int} {k : Nat} {pos : Pos} (h : ∀ t, Q (.int i t) l n) : EvE (.Constant (.int i) k pos) c l n Q X := fun s₀ s m z => wpAny_Constant_int ((z.toks _).end (h _))
theorem EvE.str {x : Str} {k : Nat} {pos : Pos} (h : ∀ t, Q (.str x t) l n) : EvE (.Constant (.str x) k pos) c l n Q X := fun s₀ s m z => PySem.Calls.Constant_str ((z.toks _).end (h _))
theorem EvE.bool {b : Bool} {k : Nat} {pos : Pos} (h : Q (.bool b) l n) : EvE (.Constant (.bool b) k pos) c l n Q X := fun s₀ s m z => Constant_bool (z.end h)
theorem EvE.none {k : Nat} {pos : Pos} (h : Q .none l n) : EvE (.Constant .none k pos) c l n Q X := fun s₀ s m z => Constant_none (z.end h)
theorem EvE.binOp {a b : Expr} {op : Operator} {pos : Pos} (h : EvE a c l n (fun x l n => EvE b c l n (fun y l n => BiO op x y c l n Q X) X) X) : EvE (.BinOp a op b pos) c l n Q X :=
  fun s₀ s m z => wpAny_BinOp (W.use h z fun _ _ _ _ _ z₁ h₁ => W.use h₁ z₁ fun _ _ _ _ _ z₂ h₂ => h₂ _ _ _ z₂)
theorem EvE.unOp {a : Expr} {op : UnaryOp} {pos : Pos} (h : EvE a c l n (fun x l n => UnO op x c l n Q X) X) : EvE (.UnaryOp op a pos) c l n Q X :=
  fun s₀ s m z => wpAny_UnaryOp (W.use h z fun _ _ _ _ _ z₁ h₁ => h₁ _ _ _ z₁)
theorem EvE.cmp1 {a b : Expr} {op : CmpOp} {pos : Pos} (h : EvE a c l n (fun x l n => EvE b c l n (fun y l n => CmO op x y c l n Q X) X) X) (hb : behindInMarks op b = false := by rfl) : EvE (.Compare a [op] [b] pos) c l n Q X :=
  fun s₀ s m z => wpAny_Compare1 (W.use h z fun _ _ _ _ _ z₁ h₁ => W.use h₁ z₁ fun _ _ _ _ _ z₂ h₂ => h₂ _ _ _ z₂) hb
theorem EvE.and_ {a b : Expr} {r : List Expr} {pos : Pos} (h : EvE a c l n (fun x l n => Tru x c l n (brK (fun l n => EvE (.BoolOp .And (b :: r) pos) c l n Q X) (Q x)) X) X) : EvE (.BoolOp .And (a :: b :: r) pos) c l n Q X :=
  fun s₀ s m z => BoolOp_and (W.use h z fun _ _ _ _ _ z₁ h₁ => W.use h₁ z₁ fun t s₂ m₂ l₂ n₂ z₂ h₂ => by
    cases t with
    | true => exact h₂ _ _ _ z₂
    | false => exact z₂.end h₂)
theorem EvE.or_ {a b : Expr} {r : List Expr} {pos : Pos} (h : EvE a c l n (fun x l n => Tru x c l n (brK (Q x) (fun l n => EvE (.BoolOp .Or (b :: r) pos) c l n Q X)) X) X) : EvE (.BoolOp .Or (a :: b :: r) pos) c l n Q X :=
  fun s₀ s m z => BoolOp_or (W.use h z fun _ _ _ _ _ z₁ h₁ => W.use h₁ z₁ fun t s₂ m₂ l₂ n₂ z₂ h₂ => by
    cases t with
    | true => exact z₂.end h₂
    | false => exact h₂ _ _ _ z₂)
theorem EvE.bool1 {a : Expr} {op : BoolOp} {pos : Pos} (h : EvE a c l n Q X) : EvE (.BoolOp op [a] pos) c l n Q X := fun s₀ s m z => BoolOp_one (h _ _ _ z)
theorem EvE.ifExp {t a b : Expr} {pos : Pos} (h : IsT t c l n (brK (fun l n => EvE a c l n Q X) (fun l n => EvE b c l n Q X)) X) : EvE (.IfExp t a b pos) c l n Q X :=
  fun s₀ s m z => IfExp_ (W.use h z fun t s₂ m₂ l₂ n₂ z₂ h₂ => by cases t with | true => exact h₂ _ _ _ z₂ | false => exact h₂ _ _ _ z₂)
theorem EvE.callN {f : Expr} {args : List Expr} {pos : Pos} (h : EvE f c l n (fun g l n => CwK g [] args pos pos c l n Q X) X)
    (hs : eval (.Call f args [] pos) c.env = (do callWith pos (← eval f c.env) [] (backTo pos (starEach args c.env)) (backToKw pos (keywordEach [] c.env))) := by rfl) : EvE (.Call f args [] pos) c l n Q X :=
  fun s₀ s m z => Call_ (W.use h z fun _ _ _ _ _ z₁ h₁ => h₁ _ _ _ z₁) hs
theorem EvE.callM {o : Expr} {name : Str} {apos pos : Pos} {args : List Expr} {pl : Sem Bool} (h : EvE o c l n (fun ov l n => GtM ov name pl c l n (fun fx l n => CwK fx.1 fx.2 args pos pos c l n Q X) X) X)
    (hs : eval (.Call (.Attribute o name apos) args [] pos) c.env = (do
      let ov ← eval o c.env
      standAt apos.atName
      let (f, first) ← holding [ov] (getMethod ov name pl)
      callWith pos f first (backTo pos (starEach args c.env)) []) := by rfl) : EvE (.Call (.Attribute o name apos) args [] pos) c l n Q X :=
  fun s₀ s m z => MethodCall_ (W.use h z fun _ _ _ _ _ z₁ h₁ => W.use h₁ z₁ fun _ _ _ _ _ z₂ h₂ => h₂ _ _ _ z₂) hs
theorem EvE.sub {a b : Expr} {pos : Pos} (h : EvE a c l n (fun x l n => EvE b c l n (fun y l n => SbT x y a b c l n Q X) X) X) : EvE (.Subscript a b pos) c l n Q X :=
  fun s₀ s m z => Subscript_ (W.use h z fun _ _ _ _ _ z₁ h₁ => W.use h₁ z₁ fun _ _ _ _ _ z₂ h₂ => h₂ _ _ _ z₂)
theorem EvE.tuple {es : List Expr} {k : Nat} {pos : Pos} (h : EvS es pos c l n (fun vs l n => NwT vs c l n Q X) X) : EvE (.Tuple es k pos) c l n Q X :=
  fun s₀ s m z => Tuple_ (W.use h z fun _ _ _ _ _ z₁ h₁ => h₁ _ _ _ z₁)
theorem EvE.list {es : List Expr} {pos : Pos} (h : EvS es pos c l n (fun vs l n => NwL vs c l n Q X) X) : EvE (.List es pos) c l n Q X :=
  fun s₀ s m z => List_ (W.use h z fun _ _ _ _ _ z₁ h₁ => h₁ _ _ _ z₁)
theorem EvE.attr {a : Expr} {x : Str} {pos : Pos} (h : EvE a c l n (fun v l n => GtA v x c l n Q X) X)
    (hs : eval (.Attribute a x pos) c.env = (do
      let o ← eval a c.env
      standAt pos.atName
      let r ← holding [o] (getAttr o x true)
      letTemporaryGo a o r
      pure r) := by rfl) : EvE (.Attribute a x pos) c l n Q X :=
  fun s₀ s m z => Attribute_any_ (W.use h z fun _ _ _ _ _ z₁ h₁ => h₁ _ _ _ z₁) hs

theorem EvS.nil {pos : Pos} {Q : List Value → Loc → Led → Prop} (h : Q [] l n) : EvS [] pos c l n Q X := fun s₀ s m z => spliced_nil (z.end h)
theorem EvS.cons {e : Expr} {es : List Expr} {pos : Pos} {Q : List Value → Loc → Led → Prop} (h : EvE e c l n (fun v l n => EvS es pos c l n (fun vs l n => Q (v :: vs) l n) X) X)
    (hs : starEach (e :: es) c.env = (false, eval e c.env) :: starEach es c.env := by rfl) : EvS (e :: es) pos c l n Q X := by
  intro s₀ s m z
  show wpAny _ _ (spliced (backTo pos (starEach (e :: es) c.env))) _ _ s
  rw [hs]
  exact spliced_cons (W.use h z fun _ _ _ _ _ z₁ h₁ => W.use h₁ z₁ fun _ _ _ _ _ z₂ h₂ => z₂.end h₂)

theorem CwK.of {f : Value} {first : List Value} {e : Expr} {es : List Expr} {pos pos' : Pos} (hk : ∀ h : Heap, K.In h → ∃ k, (k = Keeper.frame ∨ k = Keeper.machine ∨ k = Keeper.boundFrame) ∧ Looks (model pr w) h (keeperOf f) k)
    (h : EvS (e :: es) pos' c l n (fun vs l n => CaV f (first ++ vs) c l n Q X) X) (hp : (backTo pos' (starEach (e :: es) c.env)).any (·.1) = false)
    (hs : starEach (e :: es) c.env = (false, eval e c.env) :: starEach es c.env) : CwK f first (e :: es) pos pos' c l n Q X := by
  intro s₀ s m z
  show wpAny _ _ (callWith pos f first (backTo pos' (starEach (e :: es) c.env)) []) _ _ s
  have hh : wpAny (model pr w) c.A (spliced (backTo pos' (starEach (e :: es) c.env))) (fun vs s₁ => K.In s₁.heap ∧ wpAny (model pr w) c.A (call f (first ++ vs)) (fun a s' => End c s₀ (Q a) s') (X s₀) s₁) (X s₀) s :=
    W.use h z fun _ _ _ _ _ z₁ h₁ => ⟨z₁.inK, h₁ _ _ _ z₁⟩
  refine callWith_of (P := K.In) (by rw [hp]; rfl) hk ?_
  rw [hs] at hh ⊢
  exact evalArgs_plain hh
theorem CwK.of0 {f : Value} {first : List Value} {pos pos' : Pos} (hk : ∀ h : Heap, K.In h → ∃ k, (k = Keeper.frame ∨ k = Keeper.machine ∨ k = Keeper.boundFrame) ∧ Looks (model pr w) h (keeperOf f) k)
    (h : CaV f (first ++ []) c l n Q X) : CwK f first [] pos pos' c l n Q X :=
  fun s₀ s m z => callWith_of (P := K.In) rfl hk (evalArgs_nil3 ⟨z.inK, h _ _ _ z⟩)
theorem keeps_fn {f : Value} (hk : keepIn K f = true) (h : Heap) (X : K.In h) : ∃ k, (k = Keeper.frame ∨ k = Keeper.machine ∨ k = Keeper.boundFrame) ∧ Looks (model pr w) h (keeperOf f) k := keeps_K hk h X
theorem keeps_bi {f : String} (h : Heap) (_X : K.In h) : ∃ k, (k = Keeper.frame ∨ k = Keeper.machine ∨ k = Keeper.boundFrame) ∧ Looks (model pr w) h (keeperOf (.builtin f)) k := ⟨.machine, .inr (.inl rfl), Looks.of_pure rfl⟩
theorem keeps_ty {f : String} (h : Heap) (_X : K.In h) : ∃ k, (k = Keeper.frame ∨ k = Keeper.machine ∨ k = Keeper.boundFrame) ∧ Looks (model pr w) h (keeperOf (.type f)) k := ⟨.machine, .inr (.inl rfl), Looks.of_pure rfl⟩
section
variable {first : List Value} {e : Expr} {es : List Expr} {pos pos' : Pos}
theorem CwK.fn {a : Addr} (hk : keepIn K (.ref a) = true) (h : EvS (e :: es) pos' c l n (fun vs l n => CaV (.ref a) (first ++ vs) c l n Q X) X)
    (hp : (backTo pos' (starEach (e :: es) c.env)).any (·.1) = false := by rfl) (hs : starEach (e :: es) c.env = (false, eval e c.env) :: starEach es c.env := by rfl) : CwK (.ref a) first (e :: es) pos pos' c l n Q X := CwK.of (keeps_fn hk) h hp hs
theorem CwK.bi {f : String} (h : EvS (e :: es) pos' c l n (fun vs l n => CaV (.builtin f) (first ++ vs) c l n Q X) X)
    (hp : (backTo pos' (starEach (e :: es) c.env)).any (·.1) = false := by rfl) (hs : starEach (e :: es) c.env = (false, eval e c.env) :: starEach es c.env := by rfl) : CwK (.builtin f) first (e :: es) pos pos' c l n Q X := CwK.of keeps_bi h hp hs
theorem CwK.ty {f : String} (h : EvS (e :: es) pos' c l n (fun vs l n => CaV (.type f) (first ++ vs) c l n Q X) X)
    (hp : (backTo pos' (starEach (e :: es) c.env)).any (·.1) = false := by rfl) (hs : starEach (e :: es) c.env = (false, eval e c.env) :: starEach es c.env := by rfl) : CwK (.type f) first (e :: es) pos pos' c l n Q X := CwK.of keeps_ty h hp hs
theorem CwK.fn0 {a : Addr} (hk : keepIn K (.ref a) = true) (h : CaV (.ref a) (first ++ []) c l n Q X) : CwK (.ref a) first [] pos pos' c l n Q X := CwK.of0 (keeps_fn hk) h
theorem CwK.bi0 {f : String} (h : CaV (.builtin f) (first ++ []) c l n Q X) : CwK (.builtin f) first [] pos pos' c l n Q X := CwK.of0 keeps_bi h
theorem CwK.ty0 {f : String} (h : CaV (.type f) (first ++ []) c l n Q X) : CwK (.type f) first [] pos pos' c l n Q X := CwK.of0 keeps_ty h
end
end

section
variable {Q : Bool → Loc → Led → Prop}
theorem IsT.cmp1 {a b : Expr} {op : CmpOp} {pos : Pos} (h : EvE a c l n (fun x l n => EvE b c l n (fun y l n => CmO op x y c l n (fun r l n => Tru r c l n Q X) X) X) X) (hb : behindInMarks op b = false := by rfl) : IsT (.Compare a [op] [b] pos) c l n Q X :=
  fun s₀ s m z => wpAny_isTrue_Compare1 (W.use h z fun _ _ _ _ _ z₁ h₁ => W.use h₁ z₁ fun _ _ _ _ _ z₂ h₂ => W.use h₂ z₂ fun _ _ _ _ _ z₃ h₃ => h₃ _ _ _ z₃) hb
theorem IsT.chain {a b d : Expr} {o₁ o₂ : CmpOp} {ops : List CmpOp} {es : List Expr} {pos : Pos} (h : EvE a c l n (fun x l n => TsC (o₁ :: o₂ :: ops) (b :: d :: es) x pos c l n Q X) X) (hb : lastMarks (o₁ :: o₂ :: ops) (b :: d :: es) = false := by rfl) :
    IsT (.Compare a (o₁ :: o₂ :: ops) (b :: d :: es) pos) c l n Q X :=
  fun s₀ s m z => isTrue_chain (W.use h z fun _ _ _ _ _ z₁ h₁ => h₁ _ _ _ z₁) hb
theorem TsC.link {b : Expr} {op o₂ : CmpOp} {ops : List CmpOp} {d : Expr} {es : List Expr} {pos : Pos} {x : Value} (h : EvE b c l n (fun y l n => CmO op x y c l n (fun r l n => Tru r c l n (brK (fun l n => TsC (o₂ :: ops) (d :: es) y pos c l n Q X) (Q false)) X) X) X) :
    TsC (op :: o₂ :: ops) (b :: d :: es) x pos c l n Q X := by
  intro s₀ s m z
  show wpAny _ _ (testChain pos x (op :: o₂ :: ops) (eval b c.env :: eval d c.env :: evalEach es c.env)) _ _ s
  rw [testChain]
  refine wpAny_bind (wpAny_holding (W.use h z fun y s₁ m₁ l₁ n₁ z₁ h₁ => wpAny_bind (wpAny_standAt (wpAny_bind (wpAny_holding (W.use h₁ z₁ fun r s₂ m₂ l₂ n₂ z₂ h₂ => ?_))))))
  refine wpAny_bind (wpAny_release (wpAny_bind (wpAny_holding (W.use h₂ z₂ fun t s₃ m₃ l₃ n₃ z₃ h₃ => ?_))))
  cases t with
  | true => exact h₃ _ _ _ z₃
  | false => exact wpAny_pure (z₃.end h₃)
  all_goals (intro a b; intros; contradiction)
theorem TsC.last {b : Expr} {op : CmpOp} {pos : Pos} {x : Value} (h : EvE b c l n (fun y l n => CmO op x y c l n (fun r l n => Tru r c l n Q X) X) X) : TsC [op] [b] x pos c l n Q X := by
  intro s₀ s m z
  show wpAny _ _ (testChain pos x [op] [eval b c.env]) _ _ s
  rw [testChain]
  refine wpAny_bind (wpAny_holding (W.use h z fun y s₁ m₁ l₁ n₁ z₁ h₁ => wpAny_bind (wpAny_standAt (wpAny_bind (wpAny_operate' (W.use h₁ z₁ fun r s₂ m₂ l₂ n₂ z₂ h₂ => wpAny_holding (h₂ _ _ _ z₂)))))))
theorem IsT.not_ {a : Expr} {pos : Pos} (h : IsT a c l n (fun t l n => Q (!t) l n) X) : IsT (.UnaryOp .Not a pos) c l n Q X :=
  fun s₀ s m z => isTrue_not (W.use h z fun _ _ _ _ _ z₁ h₁ => z₁.end h₁)
theorem IsT.boolOp {op : BoolOp} {es : List Expr} {pos : Pos} (h : AlT op es c l n Q X) : IsT (.BoolOp op es pos) c l n Q X := h
theorem IsT.ifExp {t a b : Expr} {pos : Pos} (h : IsT t c l n (brK (fun l n => IsT a c l n Q X) (fun l n => IsT b c l n Q X)) X) : IsT (.IfExp t a b pos) c l n Q X :=
  fun s₀ s m z => isTrue_IfExp (W.use h z fun t s₂ m₂ l₂ n₂ z₂ h₂ => by cases t with | true => exact h₂ _ _ _ z₂ | false => exact h₂ _ _ _ z₂)
theorem IsT.plain {e : Expr} (h : EvE e c l n (fun v l n => Tru v c l n Q X) X)
    (hs : isTrue e c.env (eval e c.env) = (do
      let v ← eval e c.env
      standAt e.pos
      holding [v] (truthy v)) := by rfl) : IsT e c l n Q X :=
  fun s₀ s m z => isTrue_plain (W.use h z fun _ _ _ _ _ z₁ h₁ => h₁ _ _ _ z₁) hs
theorem AlT.andC {e : Expr} {es : List Expr} (h : IsT e c l n (brK (fun l n => AlT .And es c l n Q X) (Q false)) X) : AlT .And (e :: es) c l n Q X :=
  fun s₀ s m z => wpAny_allTrue_And_cons (W.use h z fun t s₂ m₂ l₂ n₂ z₂ h₂ => by cases t with | true => exact h₂ _ _ _ z₂ | false => exact z₂.end h₂)
theorem AlT.andN (h : Q true l n) : AlT .And [] c l n Q X := fun s₀ s m z => wpAny_allTrue_And_nil (z.end h)
theorem AlT.orC {e : Expr} {es : List Expr} (h : IsT e c l n (brK (Q true) (fun l n => AlT .Or es c l n Q X)) X) : AlT .Or (e :: es) c l n Q X :=
  fun s₀ s m z => wpAny_allTrue_Or_cons (W.use h z fun t s₂ m₂ l₂ n₂ z₂ h₂ => by cases t with | true => exact z₂.end h₂ | false => exact h₂ _ _ _ z₂)
theorem AlT.orN (h : Q false l n) : AlT .Or [] c l n Q X := fun s₀ s m z => wpAny_allTrue_Or_nil (z.end h)
theorem Tru.bool {b : Bool} (h : Q b l n) : Tru (.bool b) c l n Q X := fun s₀ s m z => wpAny_truthy_bool (z.end h)
theorem Tru.none (h : Q false l n) : Tru .none c l n Q X := fun s₀ s m z => wpAny_pure (z.end h)
end

section
variable {Q : Flow → Loc → Led → Prop}
theorem ExL.nil (h : Q .next l n) : ExL [] c l n Q X := fun s₀ s m z => wpAny_execs_nil (z.end h)
theorem ExL.cons {st : Stmt} {r : List Stmt} (h : ExS st c l n (seqK (fun l n => ExL r c l n Q X) Q) X) : ExL (st :: r) c l n Q X :=
  fun s₀ s m z => wpAny_execs_cons (W.use h z fun f s₂ m₂ l₂ n₂ z₂ h₂ => by
    cases f with
    | next => exact h₂ _ _ _ z₂
    | brk => exact z₂.end h₂
    | cont => exact z₂.end h₂
    | ret v => exact z₂.end h₂)
theorem ExS.ret {e : Expr} {pos : Pos} (h : EvE e c l n (fun v l n => Q (.ret v) l n) X) : ExS (.Return (some e) pos) c l n Q X := fun s₀ s m z => wpAny_Return_some (W.use h z fun _ _ _ _ _ z₁ h₁ => z₁.end h₁)
theorem ExS.ret0 {pos : Pos} (h : Q (.ret .none) l n) : ExS (.Return .none pos) c l n Q X := fun s₀ s m z => wpAny_Return_none (z.end h)
theorem ExS.if_ {t : Expr} {a b : List Stmt} {pos : Pos} (h : IsT t c l n (brK (fun l n => ExL a c l n Q X) (fun l n => ExL b c l n Q X)) X) : ExS (.If t a b pos) c l n Q X :=
  fun s₀ s m z => wpAny_If (W.use h z fun t s₂ m₂ l₂ n₂ z₂ h₂ => by cases t with | true => exact h₂ _ _ _ z₂ | false => exact h₂ _ _ _ z₂)
theorem ExS.asgN {x : Str} {p' : Pos} {e : Expr} {pos : Pos} (h : EvE e c l n (fun v l n => StN x v c l n (fun _ => Q .next) X) X) (hs : swapsWith e (some (.Name x p')) pos.line c.env = pure false := by rfl) : ExS (.Assign [.Name x p'] e pos) c l n Q X :=
  fun s₀ s m z => wpAny_Assign_Name (W.use h z fun _ _ _ _ _ z₁ h₁ => h₁ _ _ _ z₁) hs
theorem ExS.asgA {o : Expr} {x : Str} {p' : Pos} {e : Expr} {pos : Pos} (h : EvE e c l n (fun v l n => EvE o c l n (fun ov l n => StA ov x v c l n (fun _ => Q .next) X) X) X) (hs : swapsWith e (some (.Attribute o x p')) pos.line c.env = pure false := by rfl) : ExS (.Assign [.Attribute o x p'] e pos) c l n Q X :=
  fun s₀ s m z => plainObj_wpAny_Assign_Attribute (W.use h z fun _ _ _ _ _ z₁ h₁ => W.use h₁ z₁ fun _ _ _ _ _ z₂ h₂ => h₂ _ _ _ z₂) hs
theorem ExS.asgS {o i : Expr} {p' : Pos} {e : Expr} {pos : Pos} (h : EvE e c l n (fun v l n => EvE o c l n (fun ov l n => EvE i c l n (fun iv l n => StI ov iv v c l n (fun _ => Q .next) X) X) X) X) (hs : swapsWith e (some (.Subscript o i p')) pos.line c.env = pure false := by rfl) : ExS (.Assign [.Subscript o i p'] e pos) c l n Q X :=
  fun s₀ s m z => wpAny_Assign_Subscript (W.use h z fun _ _ _ _ _ z₁ h₁ => W.use h₁ z₁ fun _ _ _ _ _ z₂ h₂ => W.use h₂ z₂ fun _ _ _ _ _ z₃ h₃ => h₃ _ _ _ z₃) hs
theorem ExS.asgT {es : List Expr} {k : Nat} {p' : Pos} {e : Expr} {pos : Pos} (h : EvE e c l n (fun v l n => AsT (.Tuple es k p') v c l n (fun _ => Q .next) X) X) (hs : swapsWithSole [.Tuple es k p'] e pos.line c.env = pure false := by rfl) (hw : swappedStores [.Tuple es k p'] e c.env = pure .none := by rfl) : ExS (.Assign [.Tuple es k p'] e pos) c l n Q X :=
  fun s₀ s m z => Assign_Tuple (W.use h z fun _ _ _ _ _ z₁ h₁ => h₁ _ _ _ z₁) hs hw
theorem ExS.augN {x : Str} {p' : Pos} {op : Operator} {e : Expr} {pos : Pos} (h : LdN x c l n (fun old l n => EvE e c l n (fun v l n => IpO op old v c l n (fun r l n => StN x r c l n (fun _ => Q .next) X) X) X) X) : ExS (.AugAssign (.Name x p') op e pos) c l n Q X :=
  fun s₀ s m z => wpAny_AugAssign_Name (W.use h z fun _ _ _ _ _ z₁ h₁ => W.use h₁ z₁ fun _ _ _ _ _ z₂ h₂ => W.use h₂ z₂ fun _ _ _ _ _ z₃ h₃ => h₃ _ _ _ z₃)
theorem ExS.augA {o : Expr} {x : Str} {p' : Pos} {op : Operator} {e : Expr} {pos : Pos} (h : EvE o c l n (fun ov l n => GtA ov x c l n (fun old l n => EvE e c l n (fun v l n => IpO op old v c l n (fun r l n => StA ov x r c l n (fun _ => Q .next) X) X) X) X) X) : ExS (.AugAssign (.Attribute o x p') op e pos) c l n Q X :=
  fun s₀ s m z => wpAny_AugAssign_AttributeAny (W.use h z fun _ _ _ _ _ z₁ h₁ => W.use h₁ z₁ fun _ _ _ _ _ z₂ h₂ => W.use h₂ z₂ fun _ _ _ _ _ z₃ h₃ => W.use h₃ z₃ fun _ _ _ _ _ z₄ h₄ => h₄ _ _ _ z₄)
/-- an expression statement: what it gives is dropped -/
def dropK (P : Loc → Led → Prop) : Value → Loc → Led → Prop
  | .ref _ => fun _ _ => False
  | _ => P
theorem ExS.expr {e : Expr} {pos : Pos} (h : EvE e c l n (dropK (Q .next)) X) (hi : interactive c.env = false := by rfl) (hs : swapsWith e none pos.line c.env = pure false := by rfl) : ExS (.Expr e pos) c l n Q X :=
  fun s₀ s m z => wpAny_Expr (W.use h z fun v _ _ _ _ z₁ h₁ => by cases v <;> first | exact h₁.elim | exact z₁.end h₁) hi hs
theorem ExS.cont {pos : Pos} (h : Q .cont l n) : ExS (.Continue pos) c l n Q X := fun s₀ s m z => wpAny_Continue (z.end h)
theorem ExS.brk {pos : Pos} (h : Q .brk l n) : ExS (.Break pos) c l n Q X := fun s₀ s m z => wpAny_Break (z.end h)
theorem StN.local {x : Str} {v : Value} {l' : Loc} {Q : Unit → Loc → Led → Prop} (hk : sc.names.lookup x = some .local) (hs : Sto x l l') (h : Q () ((x, v) :: l') n) : StN x v c l n Q X :=
  fun s₀ s m z => wpAny_storeName_local (env := c.env) hk z.F.ns (fun h' hn hs' => (z.set hs (z.F.set hn hs') (z.M.set hs')).end h) (by show (sc.kind == .class || (sc.kind == .module && c.L != mainGlobals)) = false; rw [c.hk]; rfl)
theorem NwL.mk {vs : List Value} {Q : Value → Loc → Led → Prop} (h : ∀ a, Q (.ref a) l ((a, listOf vs.toArray 0) :: n)) (hsz : vs.length ≤ sizeLine := by first | decide | (simp only [List.length_cons, List.length_nil]; decide)) : NwL vs c l n Q X :=
  fun s₀ s m z => newList_K z.F z.M (fun a h' F N hlt => (z.new F N hlt).end (h a)) hsz
end
end
-- part NtC
theorem int_digit_text : ∀ a : Fin 10, PySem.intText? ⟨#[48 + a.1]⟩ = some (a.1 : Int) := by decide +kernel
section
variable {pr : Program} {w : World} {K : Frag} {sc : Scope} {c : Cx pr w K sc} {l : Loc} {n : Led} {X : Exc} {Q : Value → Loc → Led → Prop}
variable {a b : Int} {t u : Tok} {x y : Str}

theorem BiO.add_ii (h : ∀ k, Q (.int (a + b) k) l n) : BiO .Add (.int a t) (.int b u) c l n Q X := by
  intro s₀ s m z; with_reducible exact add_int ((z.toks _).end (h _))
theorem BiO.sub_ii (h : ∀ k, Q (.int (a - b) k) l n) : BiO .Sub (.int a t) (.int b u) c l n Q X := by
  intro s₀ s m z; with_reducible exact sub_int ((z.toks _).end (h _))
theorem BiO.mul_ii (h : ∀ k, Q (.int (a * b) k) l n) (hm : IntMulOk a b) : BiO .Mult (.int a t) (.int b u) c l n Q X := by
  intro s₀ s m z; with_reducible exact mul_int ((z.toks _).end (h _)) hm
theorem BiO.mod_ii (hb : b ≠ 0) (h : ∀ k, Q (.int (a.fmod b) k) l n) : BiO .Mod (.int a t) (.int b u) c l n Q X := by
  intro s₀ s m z; with_reducible exact mod_int' hb ((z.toks _).end (h _))
theorem BiO.fdiv_ii (hb : b ≠ 0) (hl : b.natAbs < 1073741824) (h : ∀ k, Q (.int (a.fdiv b) k) l n) : BiO .FloorDiv (.int a t) (.int b u) c l n Q X := by
  intro s₀ s m z; with_reducible exact floordiv_int hb ((z.toks _).end (h _)) (.inl (PyProof.noPylong_small hl))
theorem BiO.pow_ii (h0 : 0 ≤ b) (h1 : b ≤ 1000000) (h2 : a.natAbs < 2 ^ 64) (h : ∀ k, Q (.int (a ^ b.toNat) k) l n) : BiO .Pow (.int a t) (.int b u) c l n Q X := by
  intro s₀ s m z; with_reducible exact pow_int_small h0 h1 h2 ((z.toks _).end (h _))
theorem UnO.neg_i (h : ∀ k, Q (.int (-a) k) l n) : UnO .USub (.int a t) c l n Q X := by
  intro s₀ s m z; with_reducible exact neg_int ((z.toks _).end (h _))
theorem IpO.add_ii (h : ∀ k, Q (.int (a + b) k) l n) : IpO .Add (.int a t) (.int b u) c l n Q X := by
  intro s₀ s m z; with_reducible exact iadd_int ((z.toks _).end (h _))
theorem IpO.sub_ii (h : ∀ k, Q (.int (a - b) k) l n) : IpO .Sub (.int a t) (.int b u) c l n Q X := by
  intro s₀ s m z; with_reducible exact isub_int ((z.toks _).end (h _))
theorem CaV.int_b {v : Bool} (h : ∀ k, Q (.int (if v = true then 1 else 0) k) l n) : CaV (.type "int") [.bool v] c l n Q X := by
  intro s₀ s m z; with_reducible exact call_int_bool ((z.toks _).end (h _))
theorem CaV.int_i (h : Q (.int a t) l n) : CaV (.type "int") [.int a t] c l n Q X := by
  intro s₀ s m z; with_reducible exact call_int_int (z.end h)
theorem CaV.int_digit {a : Nat} (ha : a < 10) (h : ∀ k, Q (.int a k) l n) : CaV (.type "int") [.str ⟨#[48 + a]⟩ t] c l n Q X := fun s₀ s m z =>
  KIN.call_text (n := a) (by
    exact int_digit_text ⟨a, ha⟩) (by show 1 ≤ 640; decide) ((z.toks _).end (h _))
theorem CaV.max2 (h : ∀ k, Q (.int (if b > a then b else a) k) l n) : CaV (.builtin "max") [.int a t, .int b u] c l n Q X := by
  intro s₀ s m z; with_reducible exact max_two_N c.hh z.F z.M fun h' tk F N => (z.same F N).end (h _)
theorem CaV.min2 (h : ∀ k, Q (.int (if b < a then b else a) k) l n) : CaV (.builtin "min") [.int a t, .int b u] c l n Q X := by
  intro s₀ s m z; with_reducible exact min_two_N c.hh z.F z.M fun h' tk F N => (z.same F N).end (h _)

theorem CmO.eq_ii (h : Q (.bool (a == b)) l n) : CmO .Eq (.int a t) (.int b u) c l n Q X := by
  intro s₀ s m z; with_reducible exact PySem.P.eq_int (z.end h)
theorem CmO.ne_ii (h : Q (.bool (a != b)) l n) : CmO .NotEq (.int a t) (.int b u) c l n Q X := by
  intro s₀ s m z; with_reducible exact PySem.P.ne_int (z.end h)
theorem CmO.lt_ii (h : Q (.bool (decide (a < b))) l n) : CmO .Lt (.int a t) (.int b u) c l n Q X := by
  intro s₀ s m z; with_reducible exact PySem.P.lt_int (z.end h)
theorem CmO.le_ii (h : Q (.bool (decide (a ≤ b))) l n) : CmO .LtE (.int a t) (.int b u) c l n Q X := by
  intro s₀ s m z; with_reducible exact PySem.P.le_int (z.end h)
theorem CmO.gt_ii (h : Q (.bool (decide (a > b))) l n) : CmO .Gt (.int a t) (.int b u) c l n Q X := by
  intro s₀ s m z; with_reducible exact PySem.P.gt_int (z.end h)
theorem CmO.ge_ii (h : Q (.bool (decide (a ≥ b))) l n) : CmO .GtE (.int a t) (.int b u) c l n Q X := by
  intro s₀ s m z; with_reducible exact PySem.P.ge_int (z.end h)
theorem CmO.eq_ss (h : Q (.bool (x.cps.toList == y.cps.toList)) l n) : CmO .Eq (.str x t) (.str y u) c l n Q X := by
  intro s₀ s m z; with_reducible exact PySem.P.eq_str (z.end h)
theorem CmO.ne_ss (h : Q (.bool (x.cps.toList != y.cps.toList)) l n) : CmO .NotEq (.str x t) (.str y u) c l n Q X := by
  intro s₀ s m z; with_reducible exact PySem.P.ne_str (z.end h)
theorem CmO.lt_ss (h : Q (.bool (decide (x.cps.toList < y.cps.toList))) l n) : CmO .Lt (.str x t) (.str y u) c l n Q X := by
  intro s₀ s m z; with_reducible exact PySem.P.lt_str (z.end h)
theorem CmO.le_ss (h : Q (.bool (!decide (y.cps.toList < x.cps.toList))) l n) : CmO .LtE (.str x t) (.str y u) c l n Q X := by
  intro s₀ s m z; with_reducible exact PySem.P.le_str (z.end h)
theorem CmO.in_ss (h : Q (.bool (!(Builtin.Str.occurrences x y 0 x.length 1).isEmpty)) l n) : CmO .In (.str y u) (.str x t) c l n Q X := by
  intro s₀ s m z; with_reducible exact PySem.P.in_str (z.end h)
theorem CmO.is_none {v : Value} (h : Q (.bool (v == .none)) l n) : CmO .Is v .none c l n Q X := by
  intro s₀ s m z; with_reducible exact PySem.is_none (z.end h)
theorem CmO.isnot_none {v : Value} (h : Q (.bool (!(v == .none))) l n) : CmO .IsNot v .none c l n Q X := by
  intro s₀ s m z; with_reducible exact PySem.isNot_none (z.end h)
theorem CmO.eq_bb {b d : Array UInt8} (h : Q (.bool (b.toList == d.toList)) l n) : CmO .Eq (.bytes b t) (.bytes d u) c l n Q X := by
  intro s₀ s m z; with_reducible exact PySem.W.eq_bytes (z.end h)
theorem CmO.eq_nn (h : Q (.bool true) l n) : CmO .Eq .none .none c l n Q X := by
  intro s₀ s m z; with_reducible exact PySem.EqNone.eq_none_none (z.end h)

theorem CaV.len_s (hx : x.length ≤ sizeLine) (h : ∀ k, Q (.int x.length k) l n) : CaV (.builtin "len") [.str x t] c l n Q X := by
  intro s₀ s m z; with_reducible exact PySem.P.len_str (by rw [sizeLine_eq] at hx; omega) ((z.toks _).end (h _))
theorem CaV.len_b {d : Array UInt8} (hd : d.size ≤ sizeLine) (h : ∀ k, Q (.int d.size k) l n) : CaV (.builtin "len") [.bytes d t] c l n Q X := by
  intro s₀ s m z; with_reducible exact PySem.W.len_bytes (by rw [sizeLine_eq] at hd; omega) ((z.toks _).end (h _))
theorem At.isL {s₀ s : Shared} {m : St} (z : At c s₀ s m l n) {d : Addr} {its : Array Value} {k : Nat} (hm : Mm (d, listOf its k) n) : s.heap.IsList d its := ⟨_, z.N.get hm.mem, rfl, _, rfl⟩
theorem CaV.len_l {d : Addr} {its : Array Value} {k : Nat} (hm : Mm (d, listOf its k) n) (hz : its.size ≤ sizeLine) (h : ∀ k, Q (.int its.size k) l n) : CaV (.builtin "len") [.ref d] c l n Q X := by
  intro s₀ s m z; with_reducible exact PySem.Calls.call_len_list (z.isL hm) (by rw [sizeLine_eq] at hz; omega) ((z.toks _).end (h _))

theorem Tru.int {Q : Bool → Loc → Led → Prop} (h : Q (a != 0) l n) : Tru (.int a t) c l n Q X := by
  intro s₀ s m z; with_reducible exact PySem.P.truthy_int (z.end h)
theorem Tru.str {Q : Bool → Loc → Led → Prop} (hx : x.length ≤ sizeLine) (h : Q ((x.length : Int) != 0) l n) : Tru (.str x t) c l n Q X := by
  intro s₀ s m z; with_reducible exact PySem.P.truthy_str (by rw [sizeLine_eq] at hx; omega) ((z.toks _).end h)
theorem Tru.list {Q : Bool → Loc → Led → Prop} {d : Addr} {its : Array Value} {k : Nat} (hm : Mm (d, listOf its k) n) (hz : its.size ≤ sizeLine) (h : Q (!its.isEmpty) l n) : Tru (.ref d) c l n Q X := by
  intro s₀ s m z; with_reducible exact wpAny_truthy_list (z.isL hm) (by rw [sizeLine_eq] at hz; omega) ((z.toks _).end h)

/-- an item at a written place -/
inductive Ix : List Value → Int → Value → Prop
  | zero {v r} : Ix (v :: r) 0 v
  | one {a v r} : Ix (a :: v :: r) 1 v
  | two {a b v r} : Ix (a :: b :: v :: r) 2 v
  | neg1 {v} : Ix [v] (-1) v
  | at {r i v} : 0 ≤ i → i < 2 ^ 63 → r[i.toNat]? = some v → Ix r i v
theorem SbT.list {d : Addr} {its : List Value} {k : Nat} {v : Value} {value slice : Expr} (hm : Mm (d, listOf its.toArray k) n) (h0 : 0 ≤ a) (hv : Ix its a v) (h : Q v l n)
    (hs : subscripted slice false (.ref d) (.int a t) = operate [.ref d, .int a t] (getItem (.ref d) (.int a t)) := by rfl) (ht : ∀ r, letTemporaryGo value (.ref d) r = pure () := by intro _; rfl) : SbT (.ref d) (.int a t) value slice c l n Q X := by
  intro s₀ s m z
  have key : a < 2 ^ 63 ∧ its.toArray[a.toNat]? = some v := by
    cases hv with
    | zero => exact ⟨by decide, rfl⟩
    | one => exact ⟨by decide, rfl⟩
    | two => exact ⟨by decide, rfl⟩
    | neg1 => omega
    | «at» _ h1 h2 => exact ⟨h1, by simpa using h2⟩
  with_reducible exact item_list (z.isL hm) h0 key.1 key.2 (z.end h) hs ht
theorem StI.list {d : Addr} {its : List Value} {k : Nat} {v : Value} {C : Obj → Led} {q : List Value} {Q : Unit → Loc → Led → Prop} (hp : Put n d (listOf its.toArray k) C) (h0 : 0 ≤ a) (h1 : a < 2 ^ 63) (hq : ki_setL its a.toNat v = some q) (h : Q () l (C (listOf q.toArray k))) :
    StI (.ref d) (.int a t) v c l n Q X := by
  intro s₀ s m z; with_reducible exact ki_set z.F z.M h0 h1 (by simpa using hq) (z.upd hp _) fun h' F N => (z.putH hp F N).end h
theorem CaV.append {d : Addr} {its : List Value} {k : Nat} {v : Value} {C : Obj → Led} (hp : Put n d (listOf its.toArray k) C) (hz : its.length ≤ sizeLine) (h : Q .none l (C (listOf (its ++ [v]).toArray (k + 1)))) : CaV (.builtin "list.append") [.ref d, v] c l n Q X := by
  intro s₀ s m z
  have e : its.toArray.push v = (its ++ [v]).toArray := by simp
  with_reducible refine append_K z.F z.M (by rw [e]; exact z.upd hp _) (fun h' F N => (z.putH hp F N).end h) ?_
  simpa using hz
theorem GtM.append {d : Addr} {its : Array Value} {k : Nat} {pl : Sem Bool} {Q : Value × List Value → Loc → Led → Prop} (hm : Mm (d, listOf its k) n) (h : Q (.builtin "list.append", [.ref d]) l n) : GtM (.ref d) (Str.ofString "append") pl c l n Q X := by
  intro s₀ s m z; with_reducible exact listMethod_K z.N hm.mem PySem.F.slot_list_append PySem.F.type_list_append (z.end h)
theorem GtM.lower {pl : Sem Bool} {Q : Value × List Value → Loc → Led → Prop} (h : Q (.builtin "str.lower", [.str x t]) l n) : GtM (.str x t) (Str.ofString "lower") pl c l n Q X := by
  intro s₀ s m z; with_reducible exact PySem.GM.lower (z.end h)
theorem GtM.join {pl : Sem Bool} {Q : Value × List Value → Loc → Led → Prop} (h : Q (.builtin "str.join", [.str x t]) l n) : GtM (.str x t) (Str.ofString "join") pl c l n Q X := by
  intro s₀ s m z; with_reducible exact PySem.GM.join (z.end h)
theorem GtM.index {pl : Sem Bool} {Q : Value × List Value → Loc → Led → Prop} (h : Q (.builtin "str.index", [.str x t]) l n) : GtM (.str x t) (Str.ofString "index") pl c l n Q X := by
  intro s₀ s m z; with_reducible exact PySem.GM.index (z.end h)
theorem GtM.lstrip {pl : Sem Bool} {Q : Value × List Value → Loc → Led → Prop} (h : Q (.builtin "str.lstrip", [.str x t]) l n) : GtM (.str x t) (Str.ofString "lstrip") pl c l n Q X := by
  intro s₀ s m z; with_reducible exact PySem.GM.lstrip (z.end h)
theorem GtM.rstrip {pl : Sem Bool} {Q : Value × List Value → Loc → Led → Prop} (h : Q (.builtin "str.rstrip", [.str x t]) l n) : GtM (.str x t) (Str.ofString "rstrip") pl c l n Q X := by
  intro s₀ s m z; with_reducible exact PySem.GM.rstrip (z.end h)
theorem CaV.lower {y : Str} (e : Txt.lower x = y) (hz : Builtin.Str.tooLong (Txt.lower x).length = false) (h : ∀ k, Q (.str y k) l n) : CaV (.builtin "str.lower") [.str x t] c l n Q X := by
  intro s₀ s m z; with_reducible exact KXw.lower e hz fun t' k => (z.toks _).end (h _)
theorem CaV.lstrip (hx : x.length ≤ sizeLine) (h : ∀ k, Q (.str (Txt.lstripChars x y) k) l n) : CaV (.builtin "str.lstrip") [.str x t, .str y u] c l n Q X := by
  intro s₀ s m z; with_reducible exact PySem.SC.lstripChars (fun t' k => (z.toks _).end (h _)) hx
theorem CaV.rstrip (hx : x.length ≤ sizeLine) (h : ∀ k, Q (.str (Txt.rstripChars x y) k) l n) : CaV (.builtin "str.rstrip") [.str x t, .str y u] c l n Q X := by
  intro s₀ s m z; with_reducible exact PySem.SC.rstripChars (fun t' k => (z.toks _).end (h _)) hx
theorem CaV.index {i : Nat} {r : List Nat} (e : Builtin.Str.occurrences x y 0 x.length 1 = i :: r) (h : ∀ k, Q (.int i k) l n) : CaV (.builtin "str.index") [.str x t, .str y u] c l n Q X := by
  intro s₀ s m z; with_reducible exact PySem.SC.index e ((z.toks _).end (h _))
theorem CaV.join {d : Addr} {its : Array Value} {k : Nat} {ys : List Str} (hm : Mm (d, listOf its k) n) (hs : StrsAre its.toList ys) (hz : (ys.map (·.length)).sum + ys.length * x.length ≤ 16777216) (h : ∀ k, Q (.str (Txt.join x ys) k) l n) : CaV (.builtin "str.join") [.str x t, .ref d] c l n Q X := by
  intro s₀ s m z; with_reducible exact join_list (z.isL hm) hs hz fun t' k => (z.toks _).end (h _)
theorem CaV.chr (h0 : 0 ≤ a) (h1 : a ≤ 1114111) (h : ∀ k, Q (.str ⟨#[a.toNat]⟩ k) l n) : CaV (.builtin "chr") [.int a t] c l n Q X := by
  intro s₀ s m z; with_reducible exact chr_of_range h0 h1 ((z.toks _).end (h _))
theorem CaV.ord {d : Nat} (h : ∀ k, Q (.int d k) l n) : CaV (.builtin "ord") [.str ⟨#[d]⟩ t] c l n Q X := by
  intro s₀ s m z; with_reducible exact PySem.P.ord_of_char ((z.toks _).end (h _))
theorem CaV.str_i (ha : a.natAbs.log2 < 1920) (h : ∀ k, Q (.str (Str.ofString (toString a)) k) l n) : CaV (.type "str") [.int a t] c l n Q X := by
  intro s₀ s m z; with_reducible exact PySem.P.str_of_int ha ((z.toks _).end (h _))
end
-- part NtD
section
variable {l : Loc} {n : Led} {A B : Loc → Led → Prop}
theorem brK_t {b : Bool} (e : b = true) (h : A l n) : brK A B b l n := by subst e; exact h
theorem brK_f {b : Bool} (e : b = false) (h : B l n) : brK A B b l n := by subst e; exact h
theorem brK_dt {p : Prop} [Decidable p] (e : p) (h : A l n) : brK A B (decide p) l n := brK_t (decide_eq_true e) h
theorem brK_df {p : Prop} [Decidable p] (e : ¬ p) (h : B l n) : brK A B (decide p) l n := brK_f (decide_eq_false e) h
theorem dropK_none {P : Loc → Led → Prop} (h : P l n) : dropK P .none l n := h
theorem dropK_int {P : Loc → Led → Prop} {i : Int} {t : Tok} (h : P l n) : dropK P (.int i t) l n := h
end
local macro_rules | `(tactic| walk_at "z") => `(tactic| first | assumption | decide | exact Nat.le_of_ble_eq_true (by with_unfolding_all rfl))
local macro_rules | `(tactic| walk_at "u") => `(tactic| (intro _; with_unfolding_all rfl))
local macro_rules | `(tactic| k_mem) => `(tactic| with_reducible (first | exact Mm.head | (refine Mm.tail ?_; k_mem) | assumption | exact Mm.of (Put.mem (by assumption)) | exact Mm.of (Put.mem (Put.again (by assumption) _))))
local macro_rules | `(tactic| k_upd) => `(tactic| with_reducible (first | exact Put.head | (refine' Put.tail ?rest; (case rest => k_upd)) | assumption | exact Put.again (by assumption) _))
local macro_rules | `(tactic| k_all) => `(tactic| (first | exact Sto.nil | (refine' Sto.keep ?ne ?rest; (case ne => decide +kernel); (case rest => k_all)) | (refine' Sto.drop ?rest; (case rest => k_all))))
local macro_rules | `(tactic| walk_at "EvE Name") => `(tactic| first
  | (refine' EvE.local ?hk ?hm ?_ ?hd; (case hm => k_mem); (case hk => decide +kernel); (case hd => decide +kernel))
  | (refine' EvE.global ?hk ?hm ?_ ?hd; (case hm => k_dflt k_is); (case hk => decide +kernel); (case hd => decide +kernel))
  | (refine' EvE.builtin ?hk ?hm ?hv ?_ ?hn ?hd; (case hm => k_dflt k_is); (case hk => decide +kernel); (case hv => k_dflt boot_by_name); (case hn => decide +kernel); (case hd => decide +kernel))
  | (refine' EvE.cell ?hk ?hc ?hm ?ho ?_ ?hd; (case hc => first | assumption | k_dflt rfl); (case hm => k_mem); (case ho => rfl); (case hk => decide +kernel); (case hd => decide +kernel)))
local macro_rules | `(tactic| walk_at "LdN") => `(tactic| (refine' LdN.local ?hk ?hm ?_; (case hm => k_mem); (case hk => decide +kernel)))
local macro_rules | `(tactic| walk_at "StN") => `(tactic| (refine' StN.local ?hk ?hs ?_; (case hs => k_all); (case hk => decide +kernel)))
local macro_rules | `(tactic| walk_at "EvE Constant") => `(tactic| first | (refine EvE.int ?_; intro _) | (refine EvE.str ?_; intro _) | refine EvE.none ?_ | refine EvE.bool ?_)
local macro_rules | `(tactic| walk_at "EvE BinOp") => `(tactic| refine EvE.binOp ?_)
local macro_rules | `(tactic| walk_at "EvE UnaryOp") => `(tactic| refine EvE.unOp ?_)
local macro_rules | `(tactic| walk_at "EvE Compare") => `(tactic| refine EvE.cmp1 ?_)
local macro_rules | `(tactic| walk_at "EvE BoolOp") => `(tactic| first | refine EvE.bool1 ?_ | refine EvE.and_ ?_ | refine EvE.or_ ?_)
local macro_rules | `(tactic| walk_at "EvE IfExp") => `(tactic| refine EvE.ifExp ?_)
local macro_rules | `(tactic| walk_at "EvE Call") => `(tactic| first | refine EvE.callM ?_ | refine EvE.callN ?_)
local macro_rules | `(tactic| walk_at "EvE Subscript") => `(tactic| refine EvE.sub ?_)
local macro_rules | `(tactic| walk_at "EvE Tuple") => `(tactic| refine EvE.tuple ?_)
local macro_rules | `(tactic| walk_at "EvE List") => `(tactic| refine EvE.list ?_)
local macro_rules | `(tactic| walk_at "EvE Attribute") => `(tactic| refine EvE.attr ?_)
local macro_rules | `(tactic| walk_at "EvS nil") => `(tactic| refine EvS.nil ?_)
local macro_rules | `(tactic| walk_at "EvS cons") => `(tactic| refine EvS.cons ?_)
local macro_rules | `(tactic| walk_at "CwK ref") => `(tactic| (first | (refine' CwK.fn ?hk ?_ ?hp ?hs; (case hk => k_dflt k_is); (case hp => rfl); (case hs => rfl)) | (refine' CwK.fn0 ?hk ?_; (case hk => k_dflt k_is))))
local macro_rules | `(tactic| walk_at "CwK") => `(tactic| (first | refine CwK.bi ?_ | refine CwK.ty ?_ | refine CwK.bi0 ?_ | refine CwK.ty0 ?_))
local macro_rules | `(tactic| walk_at "IsT") => `(tactic| refine IsT.plain ?_)
local macro_rules | `(tactic| walk_at "IsT Compare") => `(tactic| first | refine IsT.cmp1 ?_ | refine IsT.chain ?_)
local macro_rules | `(tactic| walk_at "IsT UnaryOp") => `(tactic| refine IsT.not_ ?_)
local macro_rules | `(tactic| walk_at "IsT BoolOp") => `(tactic| refine IsT.boolOp ?_)
local macro_rules | `(tactic| walk_at "IsT IfExp") => `(tactic| refine IsT.ifExp ?_)
local macro_rules | `(tactic| walk_at "TsC") => `(tactic| first | refine TsC.last ?_ | refine TsC.link ?_)
local macro_rules | `(tactic| walk_at "AlT And cons") => `(tactic| refine AlT.andC ?_)
local macro_rules | `(tactic| walk_at "AlT And nil") => `(tactic| refine AlT.andN ?_)
local macro_rules | `(tactic| walk_at "AlT Or cons") => `(tactic| refine AlT.orC ?_)
local macro_rules | `(tactic| walk_at "AlT Or nil") => `(tactic| refine AlT.orN ?_)
local macro_rules | `(tactic| walk_at "ExL nil") => `(tactic| refine ExL.nil ?_)
local macro_rules | `(tactic| walk_at "ExL cons") => `(tactic| refine ExL.cons ?_)
local macro_rules | `(tactic| walk_at "ExS Return") => `(tactic| first | refine ExS.ret ?_ | refine ExS.ret0 ?_)
local macro_rules | `(tactic| walk_at "ExS If") => `(tactic| refine ExS.if_ ?_)
local macro_rules | `(tactic| walk_at "ExS Assign") => `(tactic| first | refine ExS.asgN ?_ | refine ExS.asgA ?_ | refine ExS.asgS ?_ | refine ExS.asgT ?_)
local macro_rules | `(tactic| walk_at "ExS AugAssign") => `(tactic| first | refine ExS.augN ?_ | refine ExS.augA ?_)
local macro_rules | `(tactic| walk_at "ExS Expr") => `(tactic| refine ExS.expr ?_)
local macro_rules | `(tactic| walk_at "ExS Continue") => `(tactic| refine ExS.cont ?_)
local macro_rules | `(tactic| walk_at "ExS Break") => `(tactic| refine ExS.brk ?_)
local macro_rules | `(tactic| walk_at "seqK next") => `(tactic| refine seqK_next ?_)
local macro_rules | `(tactic| walk_at "seqK ret") => `(tactic| refine seqK_ret ?_)
local macro_rules | `(tactic| walk_at "seqK brk") => `(tactic| refine seqK_brk ?_)
local macro_rules | `(tactic| walk_at "seqK cont") => `(tactic| refine seqK_cont ?_)
local macro_rules | `(tactic| walk_at "dropK none") => `(tactic| refine dropK_none ?_)
local macro_rules | `(tactic| walk_at "brK") => `(tactic| first | refine brK_not ?_ | refine brK_t (by decide +kernel) ?_ | refine brK_f (by decide +kernel) ?_ | refine brK_dt (by omega) ?_ | refine brK_df (by omega) ?_ | (refine brK_dec ?_ ?_ <;> intro _) | (refine brK_bool ?_ ?_ <;> intro _))
local macro_rules | `(tactic| walk_at "brK true") => `(tactic| refine brK_true ?_)
local macro_rules | `(tactic| walk_at "brK false") => `(tactic| refine brK_false ?_)
local macro_rules | `(tactic| walk_at "Tru bool") => `(tactic| refine Tru.bool ?_)
local macro_rules | `(tactic| walk_at "BiO Add int int") => `(tactic| (refine BiO.add_ii ?_; intro _))
local macro_rules | `(tactic| walk_at "BiO Sub int int") => `(tactic| (refine BiO.sub_ii ?_; intro _))
local macro_rules | `(tactic| walk_at "BiO Mult int int") => `(tactic| (refine' BiO.mul_ii ?_ ?hm; (case hm => first | assumption | mul_fits); intro _))
local macro_rules | `(tactic| walk_at "BiO Mod int int") => `(tactic| (refine BiO.mod_ii (by omega) ?_; intro _))
local macro_rules | `(tactic| walk_at "BiO FloorDiv int int") => `(tactic| (refine' BiO.fdiv_ii ?ha ?hb ?_; (case ha => omega); (case hb => omega); intro _))
local macro_rules | `(tactic| walk_at "BiO Pow int int") => `(tactic| (refine BiO.pow_ii (by decide) (by decide) (by decide) ?_; intro _))
local macro_rules | `(tactic| walk_at "UnO USub int") => `(tactic| (refine UnO.neg_i ?_; intro _))
local macro_rules | `(tactic| walk_at "IpO Add int int") => `(tactic| (refine IpO.add_ii ?_; intro _))
local macro_rules | `(tactic| walk_at "IpO Sub int int") => `(tactic| (refine IpO.sub_ii ?_; intro _))
local macro_rules | `(tactic| walk_at "CaV type:int") => `(tactic| first | refine CaV.int_i ?_ | (refine CaV.int_b ?_; intro _))
local macro_rules | `(tactic| walk_at "CaV builtin:max") => `(tactic| (refine CaV.max2 ?_; intro _))
local macro_rules | `(tactic| walk_at "CaV builtin:min") => `(tactic| (refine CaV.min2 ?_; intro _))
local macro_rules | `(tactic| walk_at "CmO Eq int int") => `(tactic| refine CmO.eq_ii ?_)
local macro_rules | `(tactic| walk_at "CmO NotEq int int") => `(tactic| refine CmO.ne_ii ?_)
local macro_rules | `(tactic| walk_at "CmO Lt int int") => `(tactic| refine CmO.lt_ii ?_)
local macro_rules | `(tactic| walk_at "CmO LtE int int") => `(tactic| refine CmO.le_ii ?_)
local macro_rules | `(tactic| walk_at "CmO Gt int int") => `(tactic| refine CmO.gt_ii ?_)
local macro_rules | `(tactic| walk_at "CmO GtE int int") => `(tactic| refine CmO.ge_ii ?_)
local macro_rules | `(tactic| walk_at "CmO Eq str str") => `(tactic| refine CmO.eq_ss ?_)
local macro_rules | `(tactic| walk_at "CmO NotEq str str") => `(tactic| refine CmO.ne_ss ?_)
local macro_rules | `(tactic| walk_at "CmO Lt str str") => `(tactic| refine CmO.lt_ss ?_)
local macro_rules | `(tactic| walk_at "CmO LtE str str") => `(tactic| refine CmO.le_ss ?_)
local macro_rules | `(tactic| walk_at "CmO In str str") => `(tactic| refine CmO.in_ss ?_)
local macro_rules | `(tactic| walk_at "CmO Is") => `(tactic| refine CmO.is_none ?_)
local macro_rules | `(tactic| walk_at "CmO IsNot") => `(tactic| refine CmO.isnot_none ?_)
local macro_rules | `(tactic| walk_at "SbT ref int") => `(tactic| (refine' SbT.list ?hm ?h0 ?hv ?_ ?hs ?ht; (case hm => k_mem); (case h0 => decide); (case hv => with_reducible (first | exact Ix.zero | exact Ix.one | exact Ix.two)); (case hs => rfl); (case ht => (intro _; rfl))))
local macro_rules | `(tactic| walk_at "StI ref int") => `(tactic| (refine' StI.list ?hm ?h0 ?h1 ?hv ?_; (case hm => k_upd); (case h0 => decide); (case h1 => decide); (case hv => rfl)))
local macro_rules | `(tactic| walk_at "NwL") => `(tactic| (refine NwL.mk ?_; intro _))
-- part NtE
def NoX : Exc := fun _ _ _ => False
/-- the ledger without an entry -/
inductive Rem (a : Addr) : Led → Led → Prop
  | head {o : Obj} {r : Led} : Rem a ((a, o) :: r) r
  | tail {q : Addr × Obj} {r r' : Led} : Rem a r r' → Rem a (q :: r) (q :: r')
theorem Rem.spec {a : Addr} {n n' : Led} (h : Rem a n n') : ∃ o, n.Perm ((a, o) :: n') := by
  induction h with
  | head => exact ⟨_, .refl _⟩
  | tail _ ih => obtain ⟨o, p⟩ := ih; exact ⟨o, (p.cons _).trans (List.Perm.swap _ _ _)⟩
/-- the iterators' objects -/
def LIt (o : Obj) (l : Addr) (i : Nat) : Prop := o.cls = .type "list_iterator" ∧ o.data = .fields #[.ref l, .int i 0]
def SIt (o : Obj) (x : Str) (t : Tok) (i : Nat) : Prop := o.cls = .type "str_ascii_iterator" ∧ o.data = .fields #[.str x t, .int i 0]
def BIt (o : Obj) (x : Array UInt8) (t : Tok) (i : Nat) : Prop := o.cls = .type "bytes_iterator" ∧ o.data = .fields #[.bytes x t, .int i 0]
def RIt (o : Obj) (x left : Int) : Prop := ∀ h a, h.get? a = some o → IsRangeIter h a x left 1
section
variable {pr : Program} {w : World} {K : Frag} {sc : Scope} {c : Cx pr w K sc} {l : Loc} {n : Led} {X : Exc}
/-- one object changed in ways unknown: it leaves the ledger -/
theorem At.lost {s₀ s : Shared} {m : St} (z : At c s₀ s m l n) {h' : Heap} {t : Nat} {a : Addr} {n' : Led} (hr : Rem a n n') (hs : Heap.ExtBut a s.heap h') : At c s₀ { s with heap := h', toks := t } m l n' := by
  obtain ⟨o, p⟩ := hr.spec
  have hsel : Sel n' n := Sel.trans (Sel.skip Sel.refl) (Sel.of_perm p)
  have y := z.drop (fun _ h => h) hsel
  have ha := z.N (a, o) (p.mem_iff.mpr (.head _))
  have hU : a ∉ (n' ++ m.u).map (·.1) := by
    have u := z.O.U
    have : ((a, o) :: (n' ++ m.u)).map (·.1) |>.Nodup := by rw [← List.cons_append]; exact ((p.append_right m.u).map _).nodup_iff.mp u
    rw [List.map_cons] at this
    exact (List.nodup_cons.mp this).1
  obtain ⟨oL, es, ep, hL, r⟩ := z.F.ns
  refine ⟨z.R.with, ⟨⟨oL, es, ep, hs _ _ (Ne.symm ha.2.1) hL, r⟩, fun b x q => hs b x (fun e => ?_) (z.F.keep b x q), z.F.above⟩, z.H, ⟨fun q hq => ?_, y.O.U, y.O.S⟩⟩
  · have := ha.2.2; dsimp only at this; rw [← e, q] at this; cases this
  · have k := y.M q hq
    exact ⟨hs _ _ (fun e => hU (by rw [← e]; exact List.mem_map.mpr ⟨q, hq, rfl⟩)) k.1, k.2⟩
section
variable {Q : Value → Loc → Led → Prop}
theorem ItR.list {d : Addr} {its : Array Value} {k : Nat} (hm : Mm (d, listOf its k) n) (h : ∀ a o, LIt o d 0 → Q (.ref a) l ((a, o) :: n)) : ItR (.ref d) c l n Q X := by
  intro s₀ s m z
  with_reducible refine wpAny_pyIter_list (z.isL hm) ((z.push (t := s.toks) { cls := .type "list_iterator", data := .fields #[.ref d, .int 0 0] } rfl).end (h _ _ ?_))
  exact ⟨rfl, rfl⟩
theorem ItR.str {x : Str} {t : Tok} (ha : x.cps.all (· < 128) = true) (h : ∀ a o, SIt o x t 0 → Q (.ref a) l ((a, o) :: n)) : ItR (.str x t) c l n Q X := by
  intro s₀ s m z
  with_reducible refine wpAny_pyIter_ascii ha ((z.push (t := s.toks) { cls := .type "str_ascii_iterator", data := .fields #[.str x t, .int 0 0] } rfl).end (h _ _ ?_))
  exact ⟨rfl, rfl⟩
theorem ItR.bytes {x : Array UInt8} {t : Tok} (h : ∀ a o, BIt o x t 0 → Q (.ref a) l ((a, o) :: n)) : ItR (.bytes x t) c l n Q X := by
  intro s₀ s m z
  with_reducible refine KBw.pyIter_bytes ((z.push (t := s.toks) { cls := .type "bytes_iterator", data := .fields #[.bytes x t, .int 0 0] } rfl).end (h _ _ ?_))
  exact ⟨rfl, rfl⟩
def rangeObj (a b : Int) (t u v : Tok) : Obj := { cls := .type "range", data := .fields #[.int a t, .int b u, .int 1 v] }
theorem CaV.range1 {a : Int} {t : Tok} (h : ∀ d u v, Q (.ref d) l ((d, rangeObj 0 a u t v) :: n)) : CaV (.type "range") [.int a t] c l n Q X := by
  intro s₀ s m z; with_reducible exact call_range_1 ((z.push { cls := .type "range", data := .fields #[.int 0 s.toks, .int a t, .int 1 (s.toks + 1)] } rfl).end (h _ _ _))
theorem CaV.range2 {a b : Int} {t u : Tok} (h : ∀ d v, Q (.ref d) l ((d, rangeObj a b t u v) :: n)) : CaV (.type "range") [.int a t, .int b u] c l n Q X := by
  intro s₀ s m z; with_reducible exact call_range_2 ((z.push { cls := .type "range", data := .fields #[.int a t, .int b u, .int 1 s.toks] } rfl).end (h _ _))
theorem ItR.range {d : Addr} {a b : Int} {t u v : Tok} (hm : Mm (d, rangeObj a b t u v) n) (hs : Builtin.Range.small a b 1 = true) (h : ∀ i o, RIt o a (Builtin.Range.rangeSize a b 1) → Q (.ref i) l ((i, o) :: n)) : ItR (.ref d) c l n Q X := by
  intro s₀ s m z
  refine wpAny_pyIter_range (z.N.get hm.mem) hs ((z.push (t := s.toks) { cls := .type "range_iterator", data := .fields #[rawInt a, rawInt (Builtin.Range.rangeSize a b 1), rawInt 1] } rfl).end (h _ _ fun h' a' e => e))
end
section
variable {Q : Option Value → Loc → Led → Prop}
theorem NxT.list_item {I d : Addr} {its : Array Value} {k i : Nat} {v : Value} {o : Obj} {C : Obj → Led} (hp : Put n I o C) (ho : LIt o d i) (hm : Mm (d, listOf its k) n) (hx : its[i]? = some v) (h : ∀ o', LIt o' d (i + 1) → Q (some v) l (C o')) : NxT (.ref I) c l n Q X := by
  intro s₀ s m z
  exact wpAny_pyNext_list_item ⟨o, (z.N _ hp.mem).1, ho.1, ho.2⟩ (z.isL hm) hx fun h' ⟨o', ho', hc, hd⟩ hs => (z.change (t := s.toks) hp hs.extBut ho').end (h o' ⟨hc, hd⟩)
theorem NxT.list_end {I d : Addr} {its : Array Value} {k i : Nat} {o : Obj} {n' : Led} (hm' : Mm (I, o) n) (hr : Rem I n n') (ho : LIt o d i) (hm : Mm (d, listOf its k) n) (hx : its[i]? = none) (h : Q none l n') : NxT (.ref I) c l n Q X := by
  intro s₀ s m z
  exact wpAny_pyNext_list_end c.hh ⟨o, z.N.get hm'.mem, ho.1, ho.2⟩ (z.isL hm) hx fun h' hs => (z.lost (t := s.toks) hr hs).end h
theorem NxT.str_item {I : Addr} {x : Str} {t : Tok} {i a : Nat} {o : Obj} {C : Obj → Led} (hp : Put n I o C) (ho : SIt o x t i) (hx : x.cps[i]? = some a) (h : ∀ o' u, SIt o' x t (i + 1) → Q (some (.str ⟨#[a]⟩ u)) l (C o')) : NxT (.ref I) c l n Q X := by
  intro s₀ s m z
  exact wpAny_pyNext_ascii_item ⟨o, (z.N _ hp.mem).1, ho.1, ho.2⟩ hx fun h' ⟨o', ho', hc, hd⟩ hs => (z.change hp hs.extBut ho').end (h o' _ ⟨hc, hd⟩)
theorem NxT.str_end {I : Addr} {x : Str} {t : Tok} {i : Nat} {o : Obj} {n' : Led} (hm' : Mm (I, o) n) (hr : Rem I n n') (ho : SIt o x t i) (hx : x.cps[i]? = none) (h : Q none l n') : NxT (.ref I) c l n Q X := by
  intro s₀ s m z
  exact wpAny_pyNext_ascii_end c.hh ⟨o, z.N.get hm'.mem, ho.1, ho.2⟩ hx fun h' hs => (z.lost (t := s.toks) hr hs).end h
theorem NxT.bytes_item {I : Addr} {x : Array UInt8} {t : Tok} {i : Nat} {a : UInt8} {o : Obj} {C : Obj → Led} (hp : Put n I o C) (ho : BIt o x t i) (hx : x[i]? = some a) (h : ∀ o' u, BIt o' x t (i + 1) → Q (some (.int a.toNat u)) l (C o')) : NxT (.ref I) c l n Q X := by
  intro s₀ s m z
  exact KBw.next_item ⟨o, (z.N _ hp.mem).1, ho.1, ho.2⟩ hx fun h' ⟨o', ho', hc, hd⟩ hs => (z.change hp hs.extBut ho').end (h o' _ ⟨hc, hd⟩)
theorem NxT.bytes_end {I : Addr} {x : Array UInt8} {t : Tok} {i : Nat} {o : Obj} {n' : Led} (hm' : Mm (I, o) n) (hr : Rem I n n') (ho : BIt o x t i) (hx : x[i]? = none) (h : Q none l n') : NxT (.ref I) c l n Q X := by
  intro s₀ s m z
  exact KBw.next_end c.hh ⟨o, z.N.get hm'.mem, ho.1, ho.2⟩ hx fun h' hs => (z.lost (t := s.toks) hr hs).end h
theorem NxT.range_item {I : Addr} {x left : Int} {o : Obj} {C : Obj → Led} (hp : Put n I o C) (ho : RIt o x left) (hx : 0 < left) (h : ∀ o' u, RIt o' (x + 1) (left - 1) → Q (some (.int x u)) l (C o')) : NxT (.ref I) c l n Q X := by
  intro s₀ s m z
  refine wpAny_pyNext_range_item (ho _ _ (z.N _ hp.mem).1) hx fun h' hit hs => ?_
  unfold IsRangeIter at hit
  exact (z.change hp hs.extBut hit).end (h _ _ fun h'' a e => e)
theorem NxT.range_end {I : Addr} {x left : Int} {o : Obj} {n' : Led} (hm' : Mm (I, o) n) (hr : Rem I n n') (ho : RIt o x left) (hx : left ≤ 0) (h : Q none l n') : NxT (.ref I) c l n Q X := by
  intro s₀ s m z
  exact wpAny_pyNext_range_end c.hh (ho _ _ (z.N.get hm'.mem)) hx fun h' hs => (z.lost (t := s.toks) hr hs).end h
end

def nextK (N : Loc → Led → Prop) (S : Value → Loc → Led → Prop) : Option Value → Loc → Led → Prop
  | none => N
  | some v => S v
def loopK (P : Loc → Led → Prop) (Q : Flow → Loc → Led → Prop) : Flow → Loc → Led → Prop
  | .next => P
  | .cont => P
  | .brk => Q .next
  | .ret v => Q (.ret v)
section
variable {P N : Loc → Led → Prop} {S : Value → Loc → Led → Prop} {Q : Flow → Loc → Led → Prop} {v : Value}
theorem nextK_none (h : N l n) : nextK N S none l n := h
theorem nextK_some (h : S v l n) : nextK N S (some v) l n := h
theorem loopK_next (h : P l n) : loopK P Q .next l n := h
theorem loopK_cont (h : P l n) : loopK P Q .cont l n := h
theorem loopK_brk (h : Q .next l n) : loopK P Q .brk l n := h
theorem loopK_ret (h : Q (.ret v) l n) : loopK P Q (.ret v) l n := h
end
/-- a `for` with k turns at most, from its next turn on -/
def FoL (target : Expr) (it : Value) (body orelse : List Stmt) (c : Cx pr w K sc) (Q : Flow → Loc → Led → Prop) : Nat → Loc → Led → Prop
  | 0, _, _ => False
  | k + 1, l, n => NxT it c l n (nextK (fun l n => ExL orelse c l n Q NoX) (fun v l n => AsT target v c l n (fun _ l n => ExL body c l n (loopK (FoL target it body orelse c Q k) Q) NoX) NoX)) NoX
def FoE (target : Expr) (it : Value) (body orelse : List Stmt) (c : Cx pr w K sc) (l : Loc) (n : Led) (Q : Flow → Loc → Led → Prop) : Prop := ∃ k, FoL target it body orelse c Q k l n
theorem FoL.turn {target : Expr} {it : Value} {body orelse : List Stmt} {Q : Flow → Loc → Led → Prop} {k : Nat}
    (h : NxT it c l n (nextK (fun l n => ExL orelse c l n Q NoX) (fun v l n => AsT target v c l n (fun _ l n => ExL body c l n (loopK (FoL target it body orelse c Q k) Q) NoX) NoX)) NoX) : FoL target it body orelse c Q (k + 1) l n := h
theorem FoE.of {target : Expr} {it : Value} {body orelse : List Stmt} {Q : Flow → Loc → Led → Prop} (k : Nat) (h : FoL target it body orelse c Q k l n) : FoE target it body orelse c l n Q := ⟨k, h⟩
theorem ExS.for_ {target iter : Expr} {body orelse : List Stmt} {pos : Pos} {Q : Flow → Loc → Led → Prop} (h : EvE iter c l n (fun v l n => ItR v c l n (fun it l n => FoE target it body orelse c l n Q) X) X)
    (hs : ∀ x, foldedSetIterable iter c.env x = pure x := by intro _; rfl) (ht : ∀ it v, letOwnedTupleGo target it v = pure () := by intro _ _; rfl) : ExS (.For target iter body orelse pos) c l n Q X := by
  intro s₀ s m z
  refine wpAny_For (W.use h z fun v s₁ m₁ l₁ n₁ z₁ h₁ => W.use h₁ z₁ fun it s₂ m₂ l₂ n₂ z₂ ⟨k, h₂⟩ => ?_) hs
  refine codeAny_forLoop (fun k s => ∃ m l n, At c s₀ s m l n ∧ FoL target it body orelse c Q k l n) (fun k s ⟨m, l, n, z, h⟩ => ?_) k ⟨m₂, l₂, n₂, z₂, h₂⟩ (ht it)
  cases k with
  | zero => exact h.elim
  | succ k =>
    refine wpAny_noRaise (wpAny_mono (h s₀ s m z) (fun r s₁ ⟨m₁, l₁, n₁, z₁, q⟩ => ?_) fun _ _ f => f)
    cases r with
    | none => exact wpAny_noRaise (wpAny_mono (q s₀ s₁ m₁ z₁) (fun f s₂ hf => hf) fun _ _ f => f)
    | some v =>
      refine wpAny_noRaise (wpAny_mono (q s₀ s₁ m₁ z₁) (fun _ s₂ ⟨m₂, l₂, n₂, z₂, q₂⟩ => ?_) fun _ _ f => f)
      refine wpAny_noRaise (wpAny_mono (q₂ s₀ s₂ m₂ z₂) (fun f s₃ ⟨m₃, l₃, n₃, z₃, q₃⟩ => ?_) fun _ _ f => f)
      cases f with
      | next => exact ⟨k, Nat.lt_succ_self _, m₃, l₃, n₃, z₃, q₃⟩
      | cont => exact ⟨k, Nat.lt_succ_self _, m₃, l₃, n₃, z₃, q₃⟩
      | brk => exact z₃.end q₃
      | ret v => exact z₃.end q₃
def WhL (test : Expr) (body orelse : List Stmt) (c : Cx pr w K sc) (Q : Flow → Loc → Led → Prop) : Nat → Loc → Led → Prop
  | 0, _, _ => False
  | k + 1, l, n => IsT test c l n (brK (fun l n => ExL body c l n (loopK (WhL test body orelse c Q k) Q) NoX) (fun l n => ExL orelse c l n Q NoX)) NoX
def WhE (test : Expr) (body orelse : List Stmt) (c : Cx pr w K sc) (l : Loc) (n : Led) (Q : Flow → Loc → Led → Prop) : Prop := ∃ k, WhL test body orelse c Q k l n
theorem WhL.turn {test : Expr} {body orelse : List Stmt} {Q : Flow → Loc → Led → Prop} {k : Nat}
    (h : IsT test c l n (brK (fun l n => ExL body c l n (loopK (WhL test body orelse c Q k) Q) NoX) (fun l n => ExL orelse c l n Q NoX)) NoX) : WhL test body orelse c Q (k + 1) l n := h
theorem WhE.of {test : Expr} {body orelse : List Stmt} {Q : Flow → Loc → Led → Prop} (k : Nat) (h : WhL test body orelse c Q k l n) : WhE test body orelse c l n Q := ⟨k, h⟩
theorem ExS.while_ {test : Expr} {body orelse : List Stmt} {pos : Pos} {Q : Flow → Loc → Led → Prop} (h : WhE test body orelse c l n Q) : ExS (.While test body orelse pos) c l n Q X := by
  obtain ⟨k, h⟩ := h
  intro s₀ s m z
  refine wpAny_While (codeAny_whileLoop (fun k s => ∃ m l n, At c s₀ s m l n ∧ WhL test body orelse c Q k l n) (fun k s ⟨m, l, n, z, h⟩ => ?_) k ⟨m, l, n, z, h⟩)
  cases k with
  | zero => exact h.elim
  | succ k =>
    refine wpAny_noRaise (wpAny_mono (h s₀ s m z) (fun b s₁ ⟨m₁, l₁, n₁, z₁, q⟩ => ?_) fun _ _ f => f)
    cases b with
    | false => exact wpAny_noRaise (wpAny_mono (q s₀ s₁ m₁ z₁) (fun f s₂ hf => hf) fun _ _ f => f)
    | true =>
      refine wpAny_noRaise (wpAny_mono (q s₀ s₁ m₁ z₁) (fun f s₃ ⟨m₃, l₃, n₃, z₃, q₃⟩ => ?_) fun _ _ f => f)
      cases f with
      | next => exact ⟨k, Nat.lt_succ_self _, m₃, l₃, n₃, z₃, q₃⟩
      | cont => exact ⟨k, Nat.lt_succ_self _, m₃, l₃, n₃, z₃, q₃⟩
      | brk => exact z₃.end q₃
      | ret v => exact z₃.end q₃
theorem AsT.name {x : Str} {pos : Pos} {v : Value} {Q : Unit → Loc → Led → Prop} (h : StN x v c l n Q X) : AsT (.Name x pos) v c l n Q X :=
  fun s₀ s m z => wpAny_assign_Name (h s₀ s m z)

/-- a comprehension's tests -/
def TsL (ifs : List Expr) (c : Cx pr w K sc) (l : Loc) (n : Led) (Q : Bool → Loc → Led → Prop) (X : Exc) : Prop := W (forIn ifs true fun t r => if r = true then do let ok ← isTrue t c.env (eval t c.env); pure (ForInStep.yield ok) else pure (ForInStep.yield r)) c l n Q X
theorem TsL.nil {Q : Bool → Loc → Led → Prop} (h : Q true l n) : TsL [] c l n Q X := fun s₀ s m z => wpAny_tests_nil (z.end h)
theorem TsL.one {t : Expr} {Q : Bool → Loc → Led → Prop} (h : IsT t c l n Q X) : TsL [t] c l n Q X := fun s₀ s m z => wpAny_tests_one (h s₀ s m z)
def CoL (elt : Expr) (x : Str) (px : Pos) (ifs : List Expr) (it : Value) (D : Addr) (c : Cx pr w K sc) (Fin : Loc → Led → Prop) : Nat → Loc → Led → Prop
  | 0, _, _ => False
  | k + 1, l, n => NxT it c l n (nextK Fin (fun v l n => AsT (.Name x px) v c l n (fun _ l n => TsL ifs c l n (brK (fun l n => EvE elt c l n (fun y l n => CaV (.builtin "list.append") [.ref D, y] c l n (fun _ l n => CoL elt x px ifs it D c Fin k l n) NoX) NoX) (CoL elt x px ifs it D c Fin k)) NoX) NoX)) NoX
def CoE (elt : Expr) (x : Str) (px : Pos) (ifs : List Expr) (it : Value) (D : Addr) (c : Cx pr w K sc) (l : Loc) (n : Led) (Fin : Loc → Led → Prop) : Prop := ∃ k, CoL elt x px ifs it D c Fin k l n
theorem CoE.of {elt : Expr} {x : Str} {px : Pos} {ifs : List Expr} {it : Value} {D : Addr} {Fin : Loc → Led → Prop} (k : Nat) (h : CoL elt x px ifs it D c Fin k l n) : CoE elt x px ifs it D c l n Fin := ⟨k, h⟩
theorem CoL.turn {elt : Expr} {x : Str} {px : Pos} {ifs : List Expr} {it : Value} {D : Addr} {Fin : Loc → Led → Prop} {k : Nat}
    (h : NxT it c l n (nextK Fin (fun v l n => AsT (.Name x px) v c l n (fun _ l n => TsL ifs c l n (brK (fun l n => EvE elt c l n (fun y l n => CaV (.builtin "list.append") [.ref D, y] c l n (fun _ l n => CoL elt x px ifs it D c Fin k l n) NoX) NoX) (CoL elt x px ifs it D c Fin k)) NoX) NoX)) NoX) : CoL elt x px ifs it D c Fin (k + 1) l n := h
end
-- part NtF
def relab (scope sc : Scope) : Scope :=
  { scope with names := scope.names.map fun (n, k) => if (k == .free && sc.kind == .function && sc.names.lookup n == some .cell) then (n, .cell) else (n, k) }
section
variable {pr : Program} {w : World} {K : Frag} {sc : Scope} {c : Cx pr w K sc} {l : Loc} {n : Led} {X : Exc}
/-- an iterator gives itself -/
def ItSelf (pr : Program) (w : World) (it : Value) (n : Led) : Prop := ∀ (A : Around) (s : Shared) (Q : Value → Shared → Prop) (E : Value → Shared → Prop), (∀ p ∈ n, s.heap.get? p.1 = some p.2) → Q it s → wpAny (model pr w) A (pyIter it) Q E s
theorem ItSelf.list {I d : Addr} {i : Nat} {o : Obj} (hm : Mm (I, o) n) (ho : LIt o d i) : ItSelf pr w (.ref I) n := fun A s Q E h q => wpAny_pyIter_listiter ⟨o, h _ hm.mem, ho.1, ho.2⟩ q
theorem ItSelf.str {I : Addr} {x : Str} {t : Tok} {i : Nat} {o : Obj} (hm : Mm (I, o) n) (ho : SIt o x t i) : ItSelf pr w (.ref I) n := fun A s Q E h q => wpAny_pyIter_striter_ascii ⟨o, h _ hm.mem, ho.1, ho.2⟩ q
theorem ItSelf.bytes {I : Addr} {x : Array UInt8} {t : Tok} {i : Nat} {o : Obj} (hm : Mm (I, o) n) (ho : BIt o x t i) : ItSelf pr w (.ref I) n := fun A s Q E h q => KBw.pyIter_self ⟨o, h _ hm.mem, ho.1, ho.2⟩ q
theorem ItSelf.range {I : Addr} {x left : Int} {o : Obj} (hm : Mm (I, o) n) (ho : RIt o x left) : ItSelf pr w (.ref I) n := fun A s Q E h q => wpAny_pyIter_rangeiter (ho _ _ (h _ hm.mem)) q
/-- what a comprehension needs from its iterator on -/
structure CoK (elt : Expr) (x : Str) (px : Pos) (ifs : List Expr) (scope : Scope) (cl : List (Str × Addr)) (c : Cx pr w K sc) (it : Value) (l : Loc) (n : Led) (Fin : Value → Loc → Led → Prop) : Prop where
  self : ItSelf pr w it n
  loop : ∀ (c₂ : Cx pr w K (relab scope sc)) (D : Addr), c₂.room = c.room → c₂.cells = cl → CoE elt x px ifs it D c₂ [] ((D, listOf #[] 0) :: n) (fun _ n' => Fin (.ref D) l n')
structure CoF (scope : Scope) (x : Str) : Prop where
  cell : ∀ y ∈ scope.names, y.2 ≠ .cell
  kind : scope.kind = .function
  names : ∀ y ∈ scope.names, y.2 = .local → scope.names.lookup y.1 = some .local
  var : scope.names.lookup x = some .local
def coOk (scope : Scope) (x : Str) : Bool := scope.names.all (fun y => y.2 != .cell) && scope.kind == .function && scope.names.all (fun y => y.2 != .local || scope.names.lookup y.1 == some .local) && scope.names.lookup x == some .local
theorem CoF.of {scope : Scope} {x : Str} (h : coOk scope x = true) : CoF scope x := by
  simp only [coOk, Bool.and_eq_true, List.all_eq_true, bne_iff_ne, beq_iff_eq, Bool.or_eq_true] at h
  obtain ⟨⟨⟨h1, h2⟩, h3⟩, h4⟩ := h
  exact ⟨fun y hy => h1 y hy, h2, fun y hy e => (h3 y hy).resolve_left (fun q => q e), h4⟩
theorem comp_core {E : Value → Shared → Prop} {elt iter : Expr} {x : Str} {px : Pos} {ifs : List Expr} {scope : Scope} {pos : Pos} {cl : List (Str × Addr)} {it : Value} {Fin : Value → Loc → Led → Prop} {RR : Value → Addr → Result → Shared → Prop}
    {s₀ s : Shared} {m : St} (z : At c s₀ s m l n) (F : CoF scope x) (hK : CoK elt x px ifs scope cl c it l n Fin)
    (hRR : ∀ D C s' m' n' (u : Led), s'.heap.Ns C m' → C ≠ c.L → (∀ p ∈ n' ++ u, p.1 ≠ C) → c.h₀.get? C = none → At c s₀ s' ⟨m.m, u⟩ l n' → Fin (.ref D) l n' → RR (.ref D) C (.ok .next) s') :
    wpAny (model pr w) c.A (newList []) (fun acc s₃ => wpAny (model pr w) c.A (newFunctionEnv scope c.env.globals cl [] c.env.qual none .none (some c.env)) (fun cenv s₄ =>
      codeAny (model pr w) c.A (.compStart (.ListComp elt [⟨.Name x px, iter, ifs, 0⟩] scope pos) 0 it acc { cenv with scope := relabel scope c.env }) (RR acc cenv.locals) s₄) E s₃) E s := by
  refine newList_K z.F z.M (fun D h' Fh N hlt => ?_) (by decide)
  have z₃ : At c s₀ { s with heap := h', toks := s.toks } m l ((D, listOf #[] 0) :: n) := z.new Fh N hlt
  refine wpAny_newFunctionEnv F.cell (by intro y hy; simp at hy) (fun h₁ hns₁ hsb₁ => ?_) F.kind
  have hk₁ : ∀ b o, h'.get? b = some o → h₁.get? b = some o := fun b o e => hsb₁.extBut b o (Nat.ne_of_lt (Heap.lt_size e)) (Heap.get?_push_of_some _ e)
  obtain ⟨oL, hoL, N', U', S'⟩ := z₃.inner (L' := h'.objs.size) (Nat.le_refl _) hk₁
  dsimp only at hns₁ hoL
  let C := h'.objs.size
  let c₂ : Cx pr w K (relab scope sc) :=
    { A := c.A, frs := c.frs, outs := (c.L, oL) :: m.u, h₀ := c.h₀, L := C, cells := cl, qual := c.qual, func := none, code := c.code, frame := c.frame, p := c.p, loose := c.loose, mean := c.mean, mg := c.mg, mb := c.mb,
      room := c.room, hk := F.kind, hA := c.hA, hh := c.hh, hd := c.hd, hu := c.hu,
      hfr := by
        intro e he
        obtain ⟨h1, a, h2, h3⟩ := c.hfr e he
        refine ⟨h1, a, h2, .inr ?_⟩
        rw [List.map_cons]
        rcases h3 with rfl | h3
        · exact .head _
        · exact .tail _ (z.O.S.keys ▸ h3)
      X := c.X, T := c.T }
  have F₂ : Fr c.h₀ C h₁ (fun y => ([] : List (Str × Value)).reverse.lookup y) := ⟨hns₁, fun b o e => hk₁ b o (z₃.F.keep b o e), Nat.le_trans z₃.F.above (Nat.le_of_lt z₃.F.ns.lt)⟩
  have z₄ : At c₂ s₀ { s with heap := h₁, toks := s.toks + ([] : List (Str × Value)).length } ⟨fun y => ([] : List (Str × Value)).reverse.lookup y, (c.L, oL) :: m.u⟩ [] ((D, listOf #[] 0) :: n) :=
    ⟨z.R.with, F₂, (fun x v e => by cases e), ⟨N', U', S'⟩⟩
  have loop : ∀ s₃ : Shared, s₃ = { s with heap := h₁, toks := s.toks + ([] : List (Str × Value)).length } →
      codeAny (model pr w) c.A (.compLoop (.ListComp elt [⟨.Name x px, iter, ifs, 0⟩] scope pos) 0 it (.ref D) c₂.env) (RR (.ref D) C) s₃ := by
    rintro s₃ rfl
    obtain ⟨k, hk⟩ := hK.loop c₂ D rfl rfl
    refine codeAny_compLoop_tests (fun k s => ∃ m' l' n', At c₂ s₀ s m' l' n' ∧ CoL elt x px ifs it D c₂ (fun _ n' => Fin (.ref D) l n') k l' n') (fun k s ⟨m', l', n', z', h⟩ => ?_) k ⟨_, _, _, z₄, hk⟩
    cases k with
    | zero => exact h.elim
    | succ k =>
      refine wpAny_noRaise (wpAny_mono (h s₀ s m' z') (fun r s₁ ⟨m₁, l₁, n₁, z₁, q⟩ => ?_) fun _ _ f => f)
      cases r with
      | none =>
        obtain ⟨u, y, o', hu⟩ := At.outer' (c := c) (c' := c₂) z₃ rfl rfl hoL z₁.R z₁.O.N z₁.O.U z₁.O.S z₁.F.keep
        refine hRR D C s₁ m₁.m n₁ u z₁.F.ns (Nat.ne_of_gt z₃.F.ns.lt) (fun p hp => (z₁.M p ?_).2.1) (Cx.fresh z₁.F) y q
        rw [hu]
        rcases List.mem_append.mp hp with q | q
        · exact List.mem_append_left _ q
        · exact List.mem_append_right _ (.tail _ q)
      | some v =>
        refine wpAny_noRaise (wpAny_mono (q s₀ s₁ m₁ z₁) (fun _ s₂ ⟨m₂, l₂, n₂, z₂, q₂⟩ => ?_) fun _ _ f => f)
        refine wpAny_noRaise (wpAny_mono (q₂ s₀ s₂ m₂ z₂) (fun ok s₃ ⟨m₃, l₃, n₃, z₃, q₃⟩ => ?_) fun _ _ f => f)
        cases ok with
        | false => exact ⟨k, Nat.lt_succ_self _, m₃, l₃, n₃, z₃, q₃⟩
        | true =>
          refine wpAny_noRaise (wpAny_mono (q₃ s₀ s₃ m₃ z₃) (fun y s₄ ⟨m₄, l₄, n₄, z₄, q₄⟩ => ?_) fun _ _ f => f)
          exact wpAny_noRaise (wpAny_mono (q₄ s₀ s₄ m₄ z₄) (fun _ s₅ ⟨m₅, l₅, n₅, z₅, q₅⟩ => ⟨k, Nat.lt_succ_self _, m₅, l₅, n₅, z₅, q₅⟩) fun _ _ f => f)
  exact codeAny_compStart_list (loop _ rfl) (hK.self _ _ _ _ (fun p hp => hk₁ _ _ ((z₃.N p (.tail _ hp)).1)) (loop _ rfl))
/-- the comprehension's name space is let go -/
theorem At.clear {s₀ s : Shared} {m : St} {C : Addr} {h' : Heap} (z : At c s₀ s m l n) (hC : C ≠ c.L) (hn : ∀ p ∈ n ++ m.u, p.1 ≠ C) (h0 : c.h₀.get? C = none) (hs : Heap.SameBut C s.heap h') : At c s₀ { s with heap := h' } m l n := by
  obtain ⟨oL, es, ep, hL, r⟩ := z.F.ns
  exact ⟨z.R.withH, ⟨⟨oL, es, ep, hs.extBut _ _ (Ne.symm hC) hL, r⟩, fun b o q => hs.extBut b o (fun e => by rw [e, h0] at q; cases q) (z.F.keep b o q), z.F.above⟩, z.H, ⟨fun p hp => ⟨hs.extBut _ _ (hn p hp) (z.M p hp).1, (z.M p hp).2⟩, z.O.U, z.O.S⟩⟩
theorem EvE.listComp {elt iter : Expr} {x : Str} {px : Pos} {ifs : List Expr} {scope : Scope} {pos : Pos} {cl : List (Str × Addr)} {Q : Value → Loc → Led → Prop} (F : CoF scope x) (hcl : closureFor scope c.env = pure cl)
    (h : EvE iter c l n (fun v l n => ItR v c l n (fun it l n => CoK elt x px ifs scope cl c it l n Q) X) X) (hs : ∀ x, foldedSetIterable iter c.env x = pure x := by intro _; rfl) :
    EvE (.ListComp elt [⟨.Name x px, iter, ifs, 0⟩] scope pos) c l n Q X := by
  intro s₀ s m z
  show wpAny _ _ (eval (.ListComp elt [⟨.Name x px, iter, ifs, 0⟩] scope pos) c.env) _ _ s
  rw [eval_ListComp]
  refine wpAny_comprehension_free (e := .ListComp elt [⟨.Name x px, iter, ifs, 0⟩] scope pos) (use := Option.none) (g := ⟨.Name x px, iter, ifs, 0⟩) (gs := []) rfl hs hcl F.kind F.names (W.use h z fun v s₁ m₁ l₁ n₁ z₁ h₁ => W.use h₁ z₁ fun it s₂ m₂ l₂ n₂ z₂ h₂ => ?_)
  refine comp_core (RR := fun acc C => compPost (model pr w) c.A (X s₀) Option.none (fun v s' => End c s₀ (Q v) s') acc C) z₂ F h₂ (fun D C s' m' n' u hns hC hn h0 y q => ?_)
  exact ⟨m', hns, fun h' hs' => (At.clear y hC hn h0 hs').end q⟩
theorem ExS.asgComp {elt iter : Expr} {x y : Str} {px py : Pos} {ifs : List Expr} {scope : Scope} {pos spos : Pos} {cl : List (Str × Addr)} {Q : Flow → Loc → Led → Prop} (F : CoF scope x) (hcl : closureFor scope c.env = pure cl)
    (hy : sc.names.lookup y = some .local)
    (h : EvE iter c l n (fun v l n => ItR v c l n (fun it l n => CoK elt x px ifs scope cl c it l n (fun v l n => ∃ l', Sto y l l' ∧ Q .next ((y, v) :: l') n)) X) X) (hs : ∀ x, foldedSetIterable iter c.env x = pure x := by intro _; rfl)
    (hsw : swapsWith (.ListComp elt [⟨.Name x px, iter, ifs, 0⟩] scope pos) (some (.Name y py)) spos.line c.env = pure true := by rfl) :
    ExS (.Assign [.Name y py] (.ListComp elt [⟨.Name x px, iter, ifs, 0⟩] scope pos) spos) c l n Q X := by
  intro s₀ s m z
  show wpAny _ _ (exec (.Assign [.Name y py] (.ListComp elt [⟨.Name x px, iter, ifs, 0⟩] scope pos) spos) c.env) _ _ s
  rw [exec_Assign_Name_used _ _ _ _ hsw]
  refine wpAny_bind (wpAny_standAt (wpAny_bind ?_))
  show wpAny _ c.A (do let _ ← comprehension (.ListComp elt [⟨.Name x px, iter, ifs, 0⟩] scope pos) scope c.env _ (newList []) false (eval iter c.env) (some (assign (.Name y py) c.env))) _ _ s
  refine wpAny_bind (wpAny_mono (wpAny_comprehension_free (use := some (assign (.Name y py) c.env)) (Q := fun _ s' => End c s₀ (Q .next) s') rfl hs hcl F.kind F.names
    (W.use h z fun v s₁ m₁ l₁ n₁ z₁ h₁ => W.use h₁ z₁ fun it s₂ m₂ l₂ n₂ z₂ h₂ => ?_)) (fun _ s' hq => wpAny_pure (wpAny_pure hq)) fun _ _ e => e)
  refine comp_core (RR := fun acc C => compPost (model pr w) c.A (X s₀) (some (assign (.Name y py) c.env)) (fun _ s' => End c s₀ (Q .next) s') acc C) z₂ F h₂ (fun D C s' m' n' u hns hC hn h0 y' q => ?_)
  obtain ⟨l', hst, q⟩ := q
  show wpAny _ c.A (assign (.Name y py) c.env (.ref D)) _ _ _
  refine wpAny_assign_Name (wpAny_storeName_local (env := c.env) hy y'.F.ns (fun h₂ hn₂ hs₂ => ?_) (by show (sc.kind == .class || (sc.kind == .module && c.L != mainGlobals)) = false; rw [c.hk]; rfl))
  have y₂ := y'.set (t := s'.toks + 1) hst (y'.F.set hn₂ hs₂) (y'.M.set hs₂)
  exact ⟨m', hns.sameBut hs₂ hC, fun h₃ hs₃ => (At.clear y₂ hC hn h0 hs₃).end q⟩
end
-- part NtG
section
theorem nsub_bytes_int : isSubtype (.type "bytes") (.type "int") = pure false := by rw [isSubtype_type]; kernel_rfl
theorem nsub_bytes_str : isSubtype (.type "bytes") (.type "str") = pure false := by rw [isSubtype_type]; kernel_rfl
theorem nsub_bytes_bytes : isSubtype (.type "bytes") (.type "bytes") = pure true := by rw [isSubtype_type]; kernel_rfl
theorem nty_int : typeOf (.type "int") = pure (.type "type") := by kernel_rfl
theorem nty_str : typeOf (.type "str") = pure (.type "type") := by kernel_rfl
theorem nty_bytes : typeOf (.type "bytes") = pure (.type "type") := by kernel_rfl
theorem isi_bytes_no {T : String} (hne : (Value.type "bytes" == Value.type T) = false) (hty : typeOf (.type T) = pure (.type "type")) (hsub : isSubtype (.type "bytes") (.type T) = pure false) {b : Array UInt8} {t : Tok} :
    Meets (Builtin.«isinstance» ⟨[.bytes b t, .type T], []⟩) (fun _ R s => R (.ok (.ret (.bool false))) { s with toks := s.toks + 1 }) :=
  fun _ _ _ _ s hs => by
    obtain ⟨h, g, d, t, os⟩ := s
    exact isinstance_outer (isinstance_nested_false_bytes hne hty hsub hs)
theorem slot_bytes_lt : Slot "bytes" (cmpInfo .Lt).2.1 "bytes.__lt__" :=
  .of (owner := "bytes") (n := "__lt__") (by rw [typeLookup_type, builtinLookup_eq_fast]; kernel_rfl) (by decide +kernel) (by decide +kernel) (by decide +kernel)
    (by first | exact .inl (by decide +kernel) | exact .inr (by decide +kernel)) (by rw [isSubtype_type]; kernel_rfl)
theorem entry_bytes_lt : entryFor table "bytes.__lt__" = some Builtin.«bytes.__lt__» := entryFor_of_tree (by kernel_rfl)
theorem args_bytes_lt (a b : Value) : argsOk "bytes.__lt__" ⟨[a, b], []⟩ := by unfold argsOk; kernel_rfl
open Builtin in
theorem gives_bytes_lt (b c : Array UInt8) (t u : Tok) : Gives (Builtin.«bytes.__lt__» ⟨[.bytes b t, .bytes c u], []⟩) (.val (.bool (Builtin.Bytes.order b.toList c.toList == .lt))) := by
  refine .of_wp fun M A E s Q hq => ?_
  show wpAny M A (isInstance (.bytes c u) (.type "bytes") >>= fun r => _) _ E s
  refine wpAny_bind (wpAny_isInstance (typeIs_bytes s c u) F.sub_bytes_bytes ?_)
  exact wpAny_pure ⟨_, rfl, hq⟩
theorem dec_of {p : Prop} [Decidable p] {r : Bool} (hr : r = true ↔ p) : decide p = r := by rw [Bool.eq_iff_iff, decide_eq_true_iff]; exact hr.symm
section
variable {pr : Program} {w : World} {K : Frag} {sc : Scope} {c : Cx pr w K sc} {l : Loc} {n : Led} {X : Exc}
section
variable {Q : Value → Loc → Led → Prop} {a b : Int} {t u : Tok} {x y : Str} {d e : Array UInt8}
theorem CmO.lt_bb (h : Q (.bool (Builtin.Bytes.order d.toList e.toList == .lt)) l n) : CmO .Lt (.bytes d t) (.bytes e u) c l n Q X := by
  intro s₀ s m z
  exact compareOp_gives (op := .Lt) (typeIs_bytes s d t) (typeIs_bytes s e u) slot_bytes_lt entry_bytes_lt (args_bytes_lt _ _) (gives_bytes_lt d e t u) (fun e => nomatch e) (z.end h)
theorem CaV.isi_int_int (h : Q (.bool true) l n) : CaV (.builtin "isinstance") [.int a t, .type "int"] c l n Q X := by
  intro s₀ s m z; with_reducible exact IsiPair.int_int (z.end h)
theorem CaV.isi_int_str (h : Q (.bool false) l n) : CaV (.builtin "isinstance") [.int a t, .type "str"] c l n Q X := by
  intro s₀ s m z; with_reducible exact IsiPair.int_str ((z.toks _).end h)
theorem CaV.isi_int_bytes (h : Q (.bool false) l n) : CaV (.builtin "isinstance") [.int a t, .type "bytes"] c l n Q X := by
  intro s₀ s m z; with_reducible exact IsiPair.int_bytes ((z.toks _).end h)
theorem CaV.isi_str_int (h : Q (.bool false) l n) : CaV (.builtin "isinstance") [.str x t, .type "int"] c l n Q X := by
  intro s₀ s m z; with_reducible exact IsiPair.str_int ((z.toks _).end h)
theorem CaV.isi_str_str (h : Q (.bool true) l n) : CaV (.builtin "isinstance") [.str x t, .type "str"] c l n Q X := by
  intro s₀ s m z; with_reducible exact IsiPair.str_str (z.end h)
theorem CaV.isi_str_bytes (h : Q (.bool false) l n) : CaV (.builtin "isinstance") [.str x t, .type "bytes"] c l n Q X := by
  intro s₀ s m z; with_reducible exact IsiPair.str_bytes ((z.toks _).end h)
theorem CaV.isi_none_bytes (h : Q (.bool false) l n) : CaV (.builtin "isinstance") [.none, .type "bytes"] c l n Q X := by
  intro s₀ s m z; with_reducible exact IsiPair.NoneType_bytes ((z.toks _).end h)
theorem CaV.isi_bytes_int (h : Q (.bool false) l n) : CaV (.builtin "isinstance") [.bytes d t, .type "int"] c l n Q X := by
  intro s₀ s m z; with_reducible exact call_isinstance (isi_bytes_no (by decide) nty_int nsub_bytes_int) ((z.toks _).end h)
theorem CaV.isi_bytes_str (h : Q (.bool false) l n) : CaV (.builtin "isinstance") [.bytes d t, .type "str"] c l n Q X := by
  intro s₀ s m z; with_reducible exact call_isinstance (isi_bytes_no (by decide) nty_str nsub_bytes_str) ((z.toks _).end h)
theorem CaV.isi_bytes_bytes (h : Q (.bool true) l n) : CaV (.builtin "isinstance") [.bytes d t, .type "bytes"] c l n Q X := by
  intro s₀ s m z; exact PyProof.Rows.call_isinstance_yes (typeIs_bytes s d t) nty_bytes nsub_bytes_bytes (z.end h)
theorem BiO.add_ss (hz : x.length + y.length ≤ sizeLine) (h : ∀ k, Q (.str (x ++ y) k) l n) : BiO .Add (.str x t) (.str y u) c l n Q X := by
  intro s₀ s m z; with_reducible exact PyProof.Rows.add_str (fun t' tk => (z.toks _).end (h _)) hz
theorem CmO.notin_ss (h : Q (.bool (!(!(Builtin.Str.occurrences x y 0 x.length 1).isEmpty))) l n) : CmO .NotIn (.str y u) (.str x t) c l n Q X := by
  intro s₀ s m z; with_reducible exact PyProof.Rows.notIn_str (z.end h)
theorem EvE.bytes {x : List UInt8} {k : Nat} {pos : Pos} (h : ∀ t, Q (.bytes x.toArray t) l n) : EvE (.Constant (.bytes x) k pos) c l n Q X := fun s₀ s m z => Constant_bytes ((z.toks _).end (h _))
theorem At.isLL {s₀ s : Shared} {m : St} (z : At c s₀ s m l n) {d : Addr} {its : Array Value} {k : Nat} (hm : Mm (d, listOf its k) n) : s.heap.get? d = some (listOf its k) := z.N.get hm.mem
theorem BiO.add_ll {d e : Addr} {its jts : Array Value} {k j : Nat} (hd : Mm (d, listOf its k) n) (he : Mm (e, listOf jts j) n) (hz : its.size + jts.size ≤ sizeLine) (h : ∀ a, Q (.ref a) l ((a, listOf (its ++ jts) 0) :: n)) : BiO .Add (.ref d) (.ref e) c l n Q X := by
  intro s₀ s m z
  exact PySem.P.add_list (z.isLL hd) (z.isLL he) ((z.push (t := s.toks) { cls := .type "list", data := .seq (its ++ jts) } rfl).end (h _)) hz
theorem CaV.sum_l {d : Addr} {vs : List Value} {k : Nat} {ns : List Int} (hd : Mm (d, listOf vs.toArray k) n) (hi : IntsAre vs ns) (h : ∀ t, Q (.int ns.sum t) l n) : CaV (.builtin "sum") [.ref d] c l n Q X := by
  intro s₀ s m z
  exact sumK c.hh z.F z.M (z.isL hd) hi fun h' tk t' F N => (z.same F N).end (h _)
theorem CaV.bytes_l {d : Addr} {vs : List Value} {k : Nat} {ns : List Int} (hd : Mm (d, listOf vs.toArray k) n) (hi : IntsAre vs ns) (hr : ∀ n ∈ ns, 0 ≤ n ∧ n < 256) (hz : vs.length ≤ sizeLine) (h : ∀ t, Q (.bytes (ns.map fun n => n.toNat.toUInt8).toArray t) l n) :
    CaV (.type "bytes") [.ref d] c l n Q X := by
  intro s₀ s m z
  exact bytes_K z.F z.M (z.isL hd) hi hr hz c.hh fun h' t tk F N _ => (z.same F N).end (h _)
/-- a slice, its three parts known -/
def SlT (o lo up st : Value) (value slice : Expr) (c : Cx pr w K sc) (l : Loc) (n : Led) (Q : Value → Loc → Led → Prop) (X : Exc) : Prop :=
  ∀ s₀ s m, At c s₀ s m l n → wpAny (model pr w) c.A (subscriptTail value slice o (.ref s.heap.objs.size)) (fun a s' => End c s₀ (Q a) s') (X s₀) { s with heap := s.heap.push { cls := .type "slice", data := .fields #[lo, up, st] } }
def EvP (x : Option Expr) (c : Cx pr w K sc) (l : Loc) (n : Led) (Q : Value → Loc → Led → Prop) (X : Exc) : Prop := W (evalPart x c.env) c l n Q X
theorem EvP.no (h : Q .none l n) : EvP Option.none c l n Q X := fun s₀ s m z => wpAny_pure (z.end h)
theorem EvP.ex {x : Expr} (h : EvE x c l n Q X) : EvP (some x) c l n Q X := h
theorem EvE.subSl {a : Expr} {lo up st : Option Expr} {sp pos : Pos} (h : EvE a c l n (fun x l n => EvP lo c l n (fun lv l n => EvP up c l n (fun uv l n => EvP st c l n (fun sv l n => SlT x lv uv sv a (.Slice lo up st sp) c l n Q X) X) X) X) X) : EvE (.Subscript a (.Slice lo up st sp) pos) c l n Q X :=
  fun s₀ s m z => Subscript_ (W.use h z fun _ _ _ _ _ z₁ h₁ => wpAny_Slice (W.use h₁ z₁ fun _ _ _ _ _ z₂ h₂ => W.use h₂ z₂ fun _ _ _ _ _ z₃ h₃ => W.use h₃ z₃ fun _ _ _ _ _ z₄ h₄ => h₄ _ _ _ z₄))
theorem SlT.str_ns {value slice : Expr} (hz : x.length ≤ sizeLine) (h : ∀ k, Q (.str (Txt.slice x Option.none (some a)) k) l n)
    (hs : ∀ s : Addr, subscripted slice false (.str x t) (.ref s) = operate [.ref s, .str x t] (getItem (.str x t) (.ref s)) := by intro _; with_unfolding_all rfl) (ht : ∀ r, letTemporaryGo value (.str x t) r = pure () := by intro _; with_unfolding_all rfl) : SlT (.str x t) .none (.int a u) .none value slice c l n Q X :=
  fun s₀ s m z => slice_strN_ns z.F z.M (fun h' t' k F N => (z.same F N).end (h _)) (hs _) ht hz
theorem SlT.str_sn {value slice : Expr} (hz : x.length ≤ sizeLine) (h : ∀ k, Q (.str (Txt.slice x (some a) Option.none) k) l n)
    (hs : ∀ s : Addr, subscripted slice false (.str x t) (.ref s) = operate [.ref s, .str x t] (getItem (.str x t) (.ref s)) := by intro _; with_unfolding_all rfl) (ht : ∀ r, letTemporaryGo value (.str x t) r = pure () := by intro _; with_unfolding_all rfl) : SlT (.str x t) (.int a u) .none .none value slice c l n Q X :=
  fun s₀ s m z => slice_strN_sn z.F z.M (fun h' t' k F N => (z.same F N).end (h _)) (hs _) ht hz
theorem SlT.str_ss {u' : Tok} {value slice : Expr} (hz : x.length ≤ sizeLine) (h : ∀ k, Q (.str (Txt.slice x (some a) (some b)) k) l n)
    (hs : ∀ s : Addr, subscripted slice false (.str x t) (.ref s) = operate [.ref s, .str x t] (getItem (.str x t) (.ref s)) := by intro _; with_unfolding_all rfl) (ht : ∀ r, letTemporaryGo value (.str x t) r = pure () := by intro _; with_unfolding_all rfl) : SlT (.str x t) (.int a u) (.int b u') .none value slice c l n Q X :=
  fun s₀ s m z => slice_strN_ss z.F z.M (fun h' t' k F N => (z.same F N).end (h _)) (hs _) ht hz
theorem SlT.list_rev {d : Addr} {its : List Value} {k : Nat} {value slice : Expr} {ops : Addr → List Value} (hd : Mm (d, listOf its.toArray k) n) (hz : its.length ≤ sizeLine) (h : ∀ a, Q (.ref a) l ((a, listOf its.reverse.toArray 0) :: n))
    (hs : ∀ s : Addr, subscripted slice false (.ref d) (.ref s) = operate (ops s) (getItem (.ref d) (.ref s))) (ht : ∀ r, letTemporaryGo value (.ref d) r = pure ()) : SlT (.ref d) .none .none (.int (-1) u) value slice c l n Q X :=
  fun s₀ s m z => krv_lit z.F z.M (z.isL hd) (.int _ _) (by simp) (fun D h' F N hlt => (z.new (t := s.toks) F N hlt).end (h D)) (hs _) ht (by simpa using hz)
theorem SbT.str {value slice : Expr} (hr : fitsSsize a = true) (h1 : -(x.length : Int) ≤ a) (h2 : a < x.length) (h : ∀ k, Q (.str (Txt.item x a) k) l n)
    (hs : subscripted slice false (.str x t) (.int a u) = operate [.str x t, .int a u] (getItem (.str x t) (.int a u)) := by with_unfolding_all rfl) (ht : ∀ r, letTemporaryGo value (.str x t) r = pure () := by intro _; with_unfolding_all rfl) : SbT (.str x t) (.int a u) value slice c l n Q X :=
  fun s₀ s m z => item_str hr h1 h2 (fun _ => (z.toks _).end (h _)) hs ht
theorem SbT.bytes {x : List UInt8} {k : Int} {value slice : Expr} (hf : x.length ≤ 1099511627776) (h0 : 0 ≤ a) (h1 : a < (x.length : Int)) (e : (((x.getD a.toNat 0).toNat : Nat) : Int) = k) (h : ∀ t, Q (.int k t) l n)
    (hs : subscripted slice false (.bytes x.toArray t) (.int a u) = operate [.bytes x.toArray t, .int a u] (getItem (.bytes x.toArray t) (.int a u)) := by with_unfolding_all rfl) (ht : ∀ r, letTemporaryGo value (.bytes x.toArray t) r = pure () := by intro _; with_unfolding_all rfl) :
    SbT (.bytes x.toArray t) (.int a u) value slice c l n Q X :=
  fun s₀ s m z => bytes_item_K hf h0 h1 e ((z.toks _).end (h _)) hs ht
def tupOf (vs : List Value) : Obj := { cls := .type "tuple", data := .seq vs.toArray }
theorem NwT.mk {vs : List Value} (h : ∀ a, Q (.ref a) l ((a, tupOf vs) :: n)) (hz : vs.length ≤ sizeLine := by first | decide | (simp only [List.length_cons, List.length_nil]; decide)) : NwT vs c l n Q X := by
  intro s₀ s m z
  refine wpAny_newObj_type ((z.push (t := s.toks) { cls := .type "tuple", data := .seq vs.toArray } rfl).end (h _)) (by show vs.toArray.size ≤ sizeLine; rw [List.size_toArray]; exact hz)
theorem At.isT {s₀ s : Shared} {m : St} (z : At c s₀ s m l n) {d : Addr} {vs : List Value} (hm : Mm (d, tupOf vs) n) : IsTup s.heap d vs.toArray := ⟨_, z.N.get hm.mem, rfl, _, rfl⟩
theorem SbT.tuple {d : Addr} {vs : List Value} {j : Nat} {v : Value} {value slice : Expr} (hm : Mm (d, tupOf vs) n) (hlo : -(2 ^ 63) ≤ a) (hhi : a < 2 ^ 63) (hj : seqIndex? a vs.length = some j) (hx : vs[j]? = some v) (h : Q v l n)
    (hs : subscripted slice false (.ref d) (.int a u) = operate [.ref d, .int a u] (getItem (.ref d) (.int a u)) := by with_unfolding_all rfl) : SbT (.ref d) (.int a u) value slice c l n Q X :=
  fun s₀ s m z => item_tupleT (z.isT hm) hlo hhi hj hx (z.end h) hs
end
/-- targets in order -/
def AsO (ts : List (Value → Sem Unit)) (vs : List Value) (c : Cx pr w K sc) (l : Loc) (n : Led) (Q : Unit → Loc → Led → Prop) (X : Exc) : Prop := W (assignInOrder ts vs) c l n Q X
theorem AsT.tuple {es : List Expr} {k : Nat} {pos : Pos} {d : Addr} {vs : List Value} {Q : Unit → Loc → Led → Prop} (hm : Mm (d, tupOf vs) n) (hn : (assignEach es c.env).length = vs.length) (hst : (assignEach es c.env).findIdx? (·.1) = none) (h : AsO ((assignEach es c.env).map (·.2)) vs c l n Q X) :
    AsT (.Tuple es k pos) (.ref d) c l n Q X :=
  fun s₀ s m z => assign_Tuple_tuple c.hh (z.isT hm) (by simpa using hn) hst fun h' he => h s₀ _ m (z.ext (t := s.toks) fun b o e => he b o (Nat.ne_of_lt (Heap.lt_size e)) e)
theorem AsO.nil {vs : List Value} {Q : Unit → Loc → Led → Prop} (h : Q () l n) : AsO [] vs c l n Q X := fun s₀ s m z => assignInOrder_nil (z.end h)
theorem AsO.cons {x : Str} {pos : Pos} {ts : List (Value → Sem Unit)} {v : Value} {vs : List Value} {Q : Unit → Loc → Led → Prop} (h : StN x v c l n (fun _ l n => AsO ts vs c l n Q X) X) : AsO ((fun v => assign (.Name x pos) c.env v) :: ts) (v :: vs) c l n Q X :=
  fun s₀ s m z => assignInOrder_cons (wpAny_assign_Name (W.use h z fun _ _ _ _ _ z₁ h₁ => h₁ _ _ _ z₁))
end
end
-- part NtX
section
variable {M : Model} {A : Around} {E : Value → Shared → Prop} {h : Heap} {g : Array GenState} {d : Drawn} {t : Nat} {os : OsState}
variable {nm q : Str} {C N : Addr} {bs bm bmB : List Value} {hdct : Bool} {sn : List Str} {sub : List Value} {ab : Bool} {col : Option Bool} {dd : Option Addr} {k0 k1 k2 k3 k5 : Option Value} {B newId initId : String}
theorem nx_check_new (F : ExcBaseFacts B newId initId bmB) (hT : ∀ X : String, bm.contains (.type X) = bmB.contains (.type X)) {rest : List Value} {Q : Unit → Shared → Prop} (hC : h.get? C = some (excClassObj nm q C N bs bm hdct sn sub ab col dd k0 k1 k2 k3 k5 newId))
    (hq : Q () ⟨h, g, d, t, os⟩) : wpAny M A (checkBuiltinCall newId ⟨.ref C :: rest, []⟩) Q E ⟨h, g, d, t, os⟩ := by
  have hcont : (Value.ref C :: bm).contains (.type B) = true := by rw [List.contains_cons, hT, F.hasB, Bool.or_true]
  have hstar := F.noStar
  simp only [checkBuiltinCall, F.newKind, F.newSplit, F.newRow]
  repeat (first | refine wpAny_loadPart_at hC ?_ | (refine wpAny_isSubtype_exc hC ?_; rw [hcont]) | refine wpAny_staticBase_exc hC ?_ | refine wpAny_madeBy_exc hC ?_ | simp only [bne_self_eq_false, Bool.false_eq_true, if_false] | wp_step)
  exact hq
end
section
variable {prog : Program} {w : World} {A : Around} {R : Result → Shared → Prop} {h : Heap} {g : Array GenState} {d : Drawn} {t : Nat} {os : OsState}
variable {nm q : Str} {C N : Addr} {bs bm bmB : List Value} {hdct : Bool} {sn : List Str} {sub : List Value} {ab : Bool} {col : Option Bool} {dd : Option Addr} {k0 k1 k2 k3 k5 : Option Value} {B newId initId : String}
theorem nx_new (F : ExcBaseFacts B newId initId bmB) (hT : ∀ X : String, bm.contains (.type X) = bmB.contains (.type X)) {rest : List Value} (hC : h.get? C = some (excClassObj nm q C N bs bm hdct sn sub ab col dd k0 k1 k2 k3 k5 newId))
    (hq : R (.ok (.ret (.ref (h.objs.size + 1)))) ⟨(h.push { cls := .type "tuple", data := .seq rest.toArray }).push
      { cls := .ref C, data := .fields #[.ref h.objs.size, .none, .none, .none, .bool false, .none] }, g, d, t, os⟩) (hrest : rest.length ≤ sizeLine) :
    codeAny (model prog w) A (.builtin newId ⟨.ref C :: rest, []⟩) R ⟨h, g, d, t, os⟩ := by
  have hends := F.ends
  have hcB : (Value.ref C :: bm).contains (.type B) = true := by rw [List.contains_cons, hT, F.hasB, Bool.or_true]
  have hcA : (Value.ref C :: bm).contains (.type "AttributeError") = false := by rw [List.contains_cons, hT, F.noAttr]; rfl
  have hcN : (Value.ref C :: bm).contains (.type "NameError") = false := by rw [List.contains_cons, hT, F.noName]; rfl
  refine codeAny_builtinAt F.entry ?_
  unfold Builtin.«BaseException.__new__»
  refine PySem.wpAt_bind ?_
  show PySem.wpAt _ _ _ (stack >>= _) _ _ _
  refine PySem.wpAt_bind (PySem.wpAt_stack fun p below => PySem.wpAt_of_wpAny ?_)
  wp_walk
  refine PySem.wpAt_of_wpAny ?_
  rw [F.owner]
  repeat (first | with_reducible refine wpAny_madeHere_exc F.canon hC ?_ | with_reducible refine wpAny_loadPart_at hC ?_ | (with_reducible refine wpAny_isSubtype_exc hC ?_; first | rw [hcB] | rw [hcA] | rw [hcN]) | wp_step)
  show R _ _
  rw [Heap.size_push]
  exact hq
end
section
variable {prog : Program} {w : World} {A : Around} {E : Value → Shared → Prop} {h : Heap} {g : Array GenState} {d : Drawn} {t : Nat} {os : OsState}
variable {nm q : Str} {C N : Addr} {bs bm bmB : List Value} {hdct : Bool} {sn : List Str} {sub : List Value} {ab : Bool} {col : Option Bool} {dd : Option Addr} {k0 k1 k2 k3 k5 : Option Value} {B newId initId : String}
theorem nx_type_call (F : ExcBaseFacts B newId initId bmB) (hT : ∀ X : String, bm.contains (.type X) = bmB.contains (.type X)) {rest : List Value} {fI : Addr} {oI : Obj} {Q : Fin → Shared → Prop}
    (hC : h.get? C = some (excClassObj nm q C N bs bm hdct sn sub ab col dd k0 k1 k2 k3 k5 newId)) (hi : Looks (model prog w) h (typeLookup (.ref C) "__init__") (some (.ref fI)))
    (hfI : h.get? fI = some oI) (hfc : oI.cls = .type "function")
    (hq : ∀ h' e, Heap.MadeExcOf h h' e (.ref C) rest →
      wpAny (model prog w) A (call (.ref fI) (.ref e :: rest)) (fun r s' => r = .none ∧ Q (.done (.ret (.ref e))) s') E ⟨h', g, d, t, os⟩) (hrest : rest.length ≤ sizeLine) :
    wpAny (model prog w) A (Builtin.«type.__call__» ⟨.ref C :: rest, []⟩) Q E ⟨h, g, d, t, os⟩ := by
  repeat (first | with_reducible refine wpAny_loadPart_at hC ?_ | with_reducible refine wpAny_madeBy_exc hC ?_ | wp_step)
  refine codeAny_call_builtin_code (Code.quiet_builtin _ F.quiet) (nx_check_new F hT hC ?_)
  refine nx_new F hT hC ?_ hrest
  show wpAny _ _ _ _ _ _
  have hC₁ := Heap.get?_push_of_some { cls := .ref C, data := .fields #[.ref h.objs.size, .none, .none, .none, .bool false, .none] }
    (Heap.get?_push_of_some { cls := .type "tuple", data := .seq rest.toArray } hC)
  have hfI₁ := Heap.get?_push_of_some { cls := .ref C, data := .fields #[.ref h.objs.size, .none, .none, .none, .bool false, .none] }
    (Heap.get?_push_of_some { cls := .type "tuple", data := .seq rest.toArray } hfI)
  have k : ∀ b o, h.get? b = some o → ((h.push { cls := .type "tuple", data := .seq rest.toArray }).push { cls := .ref C, data := .fields #[.ref h.objs.size, .none, .none, .none, .bool false, .none] }).get? b = some o :=
    fun b o e => Heap.get?_push_of_some _ (Heap.get?_push_of_some _ e)
  have hget : ((h.push { cls := .type "tuple", data := .seq rest.toArray }).push
      { cls := .ref C, data := .fields #[.ref h.objs.size, .none, .none, .none, .bool false, .none] }).get? (h.objs.size + 1) = some
      { cls := .ref C, data := .fields #[.ref h.objs.size, .none, .none, .none, .bool false, .none] } := by heap_get
  have hcC : (Value.ref C :: bm).contains (.ref C) = true := by simp
  unfold isInstance
  repeat (first | with_reducible refine wpAny_loadPart_at hget ?_ | (with_reducible refine wpAny_isSubtype_exc hC₁ ?_; rw [hcC]) | wp_step)
  show wpAny _ _ (typeLookup (.ref C) _) _ _ _
  refine (hi.keeps k).at ?_
  refine wpAny_holding (wpAny_bind ?_)
  unfold bindSpecial
  refine wpAny_bind (wpAny_typeOf (T := "function") ⟨_, hfI₁, hfc⟩ ?_)
  rw [if_pos (by decide)]
  refine wpAny_pure (wpAny_bind (wpAny_mono (hq _ (h.objs.size + 1) ⟨fun b o hb => Heap.get?_push_of_some _ (Heap.get?_push_of_some _ hb), Heap.get?_none_of_le (Nat.le_succ _), h.objs.size, hget, Heap.get?_none_of_le (Nat.le_refl _), ?_⟩) (fun r s' hr => ?_) fun _ _ x => x))
  · exact Heap.get?_push_of_some _ (Heap.get?_push_at rfl rfl)
  · obtain ⟨rfl, hQ⟩ := hr
    wp_walk
    exact hQ
theorem nx_call (F : ExcBaseFacts B newId initId bmB) (hT : ∀ X : String, bm.contains (.type X) = bmB.contains (.type X)) {rest : List Value} {fI : Addr} {oI : Obj} {Q : Value → Shared → Prop}
    (hC : h.get? C = some (excClassObj nm q C N bs bm hdct sn sub ab col dd k0 k1 k2 k3 k5 newId)) (hi : Looks (model prog w) h (typeLookup (.ref C) "__init__") (some (.ref fI)))
    (hfI : h.get? fI = some oI) (hfc : oI.cls = .type "function")
    (hq : ∀ h' e, Heap.MadeExcOf h h' e (.ref C) rest →
      wpAny (model prog w) (A.under (.builtin "type.__call__" ⟨.ref C :: rest, []⟩)) (call (.ref fI) (.ref e :: rest)) (fun r s' => r = .none ∧ Q (.ref e) s') E ⟨h', g, d, t, os⟩) (hrest : rest.length ≤ sizeLine) :
    wpAny (model prog w) A (call (.ref C) rest) Q E ⟨h, g, d, t, os⟩ := by
  have f1 := tc_lookup
  have f2 := tc_bind (.ref C)
  have hT' : (⟨h, g, d, t, os⟩ : Shared).TypeIs (.ref C) "type" := ⟨_, hC, rfl⟩
  refine wpAny_call (codeAny_of_tree ?_)
  show wpAny _ _ (callAny (.ref C) _) _ _ _
  repeat (any_goals (first | assumption | with_reducible refine wpAny_loadPart_at hC ?_ | wp_step))
  refine ⟨rfl, ?_⟩
  refine codeAny_call_builtin_at (Code.quiet_builtin _ (by decide +kernel)) entry_typeCall (wpAny_check_type_call_sub hC (nx_type_call (hrest := hrest) F hT hC hi hfI hfc fun h' e hm => ?_))
  exact hq h' e hm
end
-- part NtX2
section
variable {prog : Program} {w : World} {A : Around} {K : Frag} {C x : Addr} {s : Shared} {R : Result → Shared → Prop}
theorem nx_osa {ox : Obj} {name : Str} {tk : Tok} {v : Value} {cd : ClassData} {P : Addr} (X : K.In s.heap) (I : InstAt s.heap x ox C none) (hcd : clsIn K C = some cd)
    (hmro : cd.mro = [.ref C, .ref P, .type "Exception", .type "BaseException", .type "object"]) (hdc : cd.hasDict = true) (ht : takerIn K C name = some none) (hdn : ox.dict = none) {vs : Array Value} (hda : ox.data = .fields vs)
    (h : ∀ h' tk' dx, (∀ b o, b ≠ x → s.heap.get? b = some o → h'.get? b = some o) → h'.get? x = some { ox with dict := some dx } → R (.ok (.ret .none)) { s with heap := h', toks := tk' }) :
    codeAny (model prog w) A (.call (.builtin "object.__setattr__") ⟨[.ref x, .str name tk, v], []⟩) R s := by
  have SF := PySem.F.store_object
  have sub : Looks (model prog w) s.heap (isInstance (.ref x) (.type "object")) true := I.type.andThen (looks_mroIn X (by unfold mroIn; rw [hcd, Option.bind_some, hmro]; simp))
  refine codeAny_call_builtin SF.slot.plain SF.entry (@check_slot (model prog w) _ _ s "object.__setattr__" "object" "__setattr__" (.ref x) [.str name tk, v] [] _ SF.kind SF.split sub (SF.args (.ref x) (.str name tk) v) ?_)
  obtain ⟨attr, ha, hr⟩ := Option.bind_eq_some_iff.mp ht
  have hm : Looks (model prog w) s.heap (mroOf (.ref C)) cd.mro := (looks_clsIn X hcd).andThen .now
  have L3 : Looks (model prog w) s.heap (Builtin.ObjectAttr.storeTaker? attr) none := by
    cases attr with
    | none => exact .now
    | some a =>
      obtain ⟨b, hb, hb'⟩ := Option.map_eq_some_iff.mp hr
      refine (looks_takesIn X hb).andThen ?_
      cases b with
      | true => cases hb'
      | false => exact .now
  rw [osa_eq, refuse_eq]
  refine wpAny_bind (wpAny_bind (I.type.here (wpAny_bind (hm.here ?_))))
  rw [hmro, refuseLoop_ref, refuseLoop_ref, PySem.F.store_Exception.passes]
  refine wpAny_pure (wpAny_bind (I.type.here (wpAny_bind ((looks_findIn X ha).here (wpAny_bind (L3.here ?_))))))
  obtain ⟨hx, hcl, hn, -⟩ := I
  obtain ⟨oc, odi, oda, osl⟩ := ox
  dsimp only at hcl hdn hda
  subst hcl hdn hda
  show wpAny _ _ (Builtin.ObjectAttr.storeInOwnDict (.ref x) (.ref C) (.str name tk) name v _) _ _ _
  refine wpAny_bind (wpAny_pure (wpAny_bind (wpAny_bind (wpAny_loadPart hx (wpAny_bind ((looks_clsIn X hcd).here ?_))))))
  rw [hdc]
  have hx₁ : (s.heap.push { cls := .type "dict", data := .dict #[] }).get? x = some ⟨.ref C, none, .fields vs, osl⟩ := Heap.get?_push_of_some _ hx
  have hxs : x ≠ s.heap.objs.size := Nat.ne_of_lt (Heap.lt_size hx)
  show wpAny _ _ (alloc { cls := .type "dict", data := .dict #[] } >>= fun d => update x (fun o => { cls := o.cls, dict := some d, data := o.data, slots := o.slots }) >>= fun _ => pure (some d)) _ _ _
  refine wpAny_bind (wpAny_alloc' ?_)
  refine wpAny_bind (wpAny_update' hx₁ ?_)
  refine wpAny_pure ?_
  have hgd : ((s.heap.push { cls := .type "dict", data := .dict #[] }).update x fun o => { cls := o.cls, dict := some s.heap.objs.size, data := o.data, slots := o.slots }).get? s.heap.objs.size
      = some { cls := .type "dict", data := .dict #[] } :=
    (Heap.get?_update_ne _ _ _ _ hxs.symm).trans (Heap.get?_push_at rfl rfl)
  have hnd : ((s.heap.push { cls := .type "dict", data := .dict #[] }).update x fun o => { cls := o.cls, dict := some s.heap.objs.size, data := o.data, slots := o.slots }).Ns s.heap.objs.size (fun _ => none) :=
    ⟨_, #[], _, hgd, rfl, fun e he => absurd he (by simp), fun _ => rfl⟩
  show wpAny _ _ (PySem.Builtin.ObjectAttr.storeInDict s.heap.objs.size (.str name tk) name v) _ _ _
  unfold PySem.Builtin.ObjectAttr.storeInDict PySem.Builtin.ObjectAttr.newKeyGuard
  refine wpAny_bind (wpAny_pure (wpAny_bind (wpAny_nsSet1 (Heap.Ns1.of_empty hnd) fun h' hn' hs => ?_)))
  obtain ⟨oD, esD, epD, hoD, hdD, hcD⟩ := hn'.count (Within.cons name v Within.nil)
  refine wpAny_bind (wpAny_lookBehind hoD (by rw [hdD]; exact pastItsLine_dict (Nat.le_trans hcD (by rw [List.length_cons, List.length_nil, sizeLine_eq]; omega))) ?_)
  refine wpAny_pure (h h' _ s.heap.objs.size (fun b o hb e => ?_) ?_)
  · exact (hs.2 b (Nat.ne_of_lt (Heap.lt_size e))).trans ((Heap.get?_update_ne _ _ _ _ hb).trans (Heap.get?_push_of_some _ e))
  · exact (hs.2 x hxs).trans (Heap.get?_update_self _ hx₁ rfl)
end
def excObj (C t : Addr) (dx : Option Addr) : Obj := { cls := .ref C, dict := dx, data := .fields #[.ref t, .none, .none, .none, .bool false, .none] }
section
variable {pr : Program} {w : World} {K : Frag} {sc : Scope} {c : Cx pr w K sc} {l : Loc} {n : Led} {X : Exc}
theorem StA.exc {e t C P : Addr} {name : Str} {v : Value} {cd : ClassData} {D : Obj → Led} {Q : Unit → Loc → Led → Prop} (hp : Put n e (excObj C t none) D) (hcd : clsIn K C = some cd)
    (hmro : cd.mro = [.ref C, .ref P, .type "Exception", .type "BaseException", .type "object"]) (hdc : cd.hasDict = true) (ht : takerIn K C name = some none)
    (hs : findIn K (.ref C) "__setattr__" = some (some (.builtin "object.__setattr__"))) (h : ∀ dx, Q () l (D (excObj C t (some dx)))) : StA (.ref e) name v c l n Q X := by
  intro s₀ s m z
  have hx := (z.N _ hp.mem).1
  refine set_plain (ox := excObj C t none) (od := none) z.inK ⟨hx, rfl, rfl, trivial⟩ hs ?_
  refine nx_osa (s := { s with toks := s.toks + 1 }) (ox := excObj C t none) z.inK ⟨hx, rfl, rfl, trivial⟩ hcd hmro hdc ht rfl rfl fun h' tk' dx hk hx' => ?_
  exact (z.change hp (fun b o hb e => hk b o hb e) hx').end (h dx)
/-- under a made call -/
def Cx.under (c : Cx pr w K sc) (C : Addr) (vals : List Value) (hr : 1 ≤ c.room) : Cx pr w K sc :=
  { c with
    A := c.A.under (.builtin "type.__call__" ⟨.ref C :: vals, []⟩), room := c.room - 1, hA := c.hA, hh := c.hh
    hd := (by show c.A.depth + 1 + (c.room - 1) ≤ 900; have := c.hd; omega), hu := (by show c.A.units + 1 + 30 * (c.room - 1) ≤ 9000; have := c.hu; omega) }
theorem At.toUnder {C : Addr} {vals : List Value} {hr : 1 ≤ c.room} {s₀ s : Shared} {m : St} (z : At c s₀ s m l n) : At (c.under C vals hr) s₀ s m l n := ⟨z.R, z.F, z.H, ⟨z.O.N, z.O.U, z.O.S⟩⟩
theorem At.ofUnder {C : Addr} {vals : List Value} {hr : 1 ≤ c.room} {s₀ s : Shared} {m : St} (z : At (c.under C vals hr) s₀ s m l n) : At c s₀ s m l n := ⟨z.R, z.F, z.H, ⟨z.O.N, z.O.U, z.O.S⟩⟩
theorem At.made {s₀ s : Shared} {m : St} (z : At c s₀ s m l n) {h' : Heap} {t : Nat} {a : Addr} {o : Obj} (hk : ∀ b o, s.heap.get? b = some o → h'.get? b = some o) (hn : s.heap.get? a = none) (ho : h'.get? a = some o) :
    At c s₀ { s with heap := h', toks := t } m l ((a, o) :: n) := by
  have y := z.ext (h' := h') (t := t) hk
  refine ⟨y.R, y.F, y.H, ⟨fun p hp => ?_, ?_, y.O.S⟩⟩
  · rw [List.cons_append] at hp
    rcases List.mem_cons.mp hp with rfl | hp
    · refine ⟨ho, fun e => ?_, ?_⟩
      · obtain ⟨oL, _, _, hL, _⟩ := z.F.ns
        dsimp only at e
        rw [e, hL] at hn; cases hn
      · cases q : c.h₀.get? a with
        | none => rfl
        | some o' => have := z.F.keep _ _ q; rw [hn] at this; cases this
    · exact y.M p hp
  · rw [List.cons_append, List.map_cons]
    refine List.nodup_cons.mpr ⟨fun hm => ?_, y.O.U⟩
    obtain ⟨p, hp, e⟩ := List.mem_map.mp hm
    have := (z.M p hp).1
    dsimp only at e
    rw [e, hn] at this; cases this
theorem CaV.exc {C P fI : Addr} {v : Value} {cd : ClassData} {oI : Obj} {bm : List Value} {nm q : Str} {N : Addr} {bs : List Value} {hdct : Bool} {sn : List Str} {sub : List Value} {ab : Bool} {col : Option Bool} {dd : Option Addr} {k0 k1 k2 k3 k5 : Option Value} {Q : Value → Loc → Led → Prop}
    (hC : K.lookup C = some (excClassObj nm q C N bs bm hdct sn sub ab col dd k0 k1 k2 k3 k5 "Exception.__new__")) (hbm : bm = [.ref P, .type "Exception", .type "BaseException", .type "object"])
    (hi : findIn K (.ref C) "__init__" = some (some (.ref fI))) (hf : K.lookup fI = some oI) (hfc : oI.cls = .type "function") (hr : 1 ≤ c.room)
    (h : ∀ e t, W (call (.ref fI) [.ref e, v]) (c.under C [v] hr) l ((e, excObj C t none) :: n) (fun r l n => r = .none ∧ Q (.ref e) l n) (fun _ _ _ => False)) : CaV (.ref C) [v] c l n Q X := by
  intro s₀ s m z
  obtain ⟨hp, g, d, tk, os⟩ := s
  refine nx_call (E := X s₀) (rest := [v]) PySem.F.excBase_Exception (fun Y => by rw [hbm, List.contains_cons]; exact Bool.or_eq_right_iff_imp.mpr (fun e => by cases e)) (z.inK _ _ hC) (looks_findIn z.inK hi) (z.inK _ _ hf) hfc (fun h' e hm => ?_) (by show 1 ≤ sizeLine; rw [sizeLine_eq]; decide)
  obtain ⟨t, he, htn, ht⟩ := hm.there
  have z₁ := (z.made (t := tk) hm.keeps hm.new he).toUnder (C := C) (vals := [v]) (hr := hr)
  exact wpAny_mono (h e t s₀ _ m z₁) (fun r s' ⟨m', l', n', y, e1, e2⟩ => ⟨e1, m', l', n', y.ofUnder, e2⟩) fun _ _ f => f.elim
theorem Making.of {e t C : Addr} {dx : Option Addr} {n' : Led} {s₀ s : Shared} {m : St} (z : At c s₀ s m l ((e, excObj C t dx) :: n')) (hs : Sel n n') : Making c n (.ref C) s₀ (.ref e) s := by
  have he := (z.N _ (.head _))
  have hU : e ∉ (n' ++ m.u).map (·.1) := by have := z.O.U; rw [List.cons_append, List.map_cons] at this; exact (List.nodup_cons.mp this).1
  refine ⟨m, l, n', e, hideAll s.heap [e], excObj C t dx, _, _, rfl, ⟨z.R.withH, ?_, z.H, ⟨fun p hp => ?_, ?_, z.O.S⟩⟩, hs, fun b o e => of_hideAll _ e, hideAll_none _ (.head _), he.1, rfl, rfl, rfl, rfl⟩
  · obtain ⟨oL, es, ep, hL, r⟩ := z.F.ns
    refine ⟨⟨oL, es, ep, hideAll_get _ hL (fun q => he.2.1 (List.mem_singleton.mp q).symm), r⟩, fun b o q => hideAll_get _ (z.F.keep b o q) (fun q' => ?_), z.F.above⟩
    have := he.2.2
    rw [List.mem_singleton] at q'
    dsimp only at this
    rw [← q', q] at this; cases this
  · have y := z.M p (.tail _ hp)
    exact ⟨hideAll_get _ y.1 fun q => hU (by rw [← List.mem_singleton.mp q]; exact List.mem_map.mpr ⟨p, hp, rfl⟩), y.2⟩
  · have := z.O.U; rw [List.cons_append, List.map_cons] at this; exact (List.nodup_cons.mp this).2
/-- what a raise needs -/
def RaiseK (C : Addr) (c : Cx pr w K sc) (X : Exc) (v : Value) (l : Loc) (n : Led) : Prop := ∃ e t dx n', v = .ref e ∧ n = (e, excObj C t dx) :: n' ∧ ∀ s₀ s m, At c s₀ s m l n → X s₀ (.ref e) s
theorem ExS.raise {C : Addr} {x : Expr} {pos : Pos} {bm : List Value} {nm q : Str} {N : Addr} {bs : List Value} {hdct : Bool} {sn : List Str} {sub : List Value} {ab : Bool} {col : Option Bool} {dd : Option Addr} {k0 k1 k2 k3 k5 : Option Value} {newId : String} {Q : Flow → Loc → Led → Prop}
    (hC : K.lookup C = some (excClassObj nm q C N bs bm hdct sn sub ab col dd k0 k1 k2 k3 k5 newId)) (hbm : bm.contains (.type "BaseException") = true)
    (h : EvE x c l n (RaiseK C c X) X) : ExS (.Raise (some x) none pos) c l n Q X := by
  intro s₀ s m z
  have hcB : (Value.ref C :: bm).contains (.type "BaseException") = true := by rw [List.contains_cons, hbm, Bool.or_true]
  show wpAny _ _ (exec (.Raise (some x) none pos) c.env) _ _ s
  rw [arm_exec_Raise]
  refine wpAny_bind (wpAny_standAt ?_)
  show wpAny _ _ (raiseStmt c.env (some (do let v ← eval x c.env; standAt pos; pure v)) none) _ _ s
  unfold raiseStmt
  refine wpAny_bind (wpAny_bind (W.use h z fun v s₁ m₁ l₁ n₁ z₁ h₁ => wpAny_bind (wpAny_standAt (wpAny_pure ?_))))
  obtain ⟨e, t, dx, n', rfl, rfl, hX⟩ := h₁
  have hE := hX s₀ _ _ z₁
  have he := (z₁.N _ (.head _)).1
  have hC₁ := z₁.inK _ _ hC
  unfold excObj at he
  obtain ⟨hp, g, d, tk, os⟩ := s₁
  repeat (first | with_reducible refine wpAny_loadPart_at he ?_ | with_reducible refine wpAny_loadPart_at hC₁ ?_ | (with_reducible refine wpAny_isSubtype_exc hC₁ ?_; rw [hcB]) | wp_step)
  exact wpAny_raiseNew_none c.hh hE
end
-- part NtH
section
variable {pr : Program} {w : World} {K : Frag} {sc : Scope} {c : Cx pr w K sc} {l : Loc} {n : Led} {X : Exc}
theorem At.inst {s₀ s : Shared} {m : St} (z : At c s₀ s m l n) {x dx C : Addr} {es : List DictEntry} {k : Nat} (hx : Mm (x, instObj C dx) n) (hd : Mm (dx, dictOf es k) n) : InstAt s.heap x (instObj C dx) C (some (dictOf es k)) :=
  ⟨z.N.get hx.mem, rfl, rfl, z.N.get hd.mem⟩
theorem GtA.own {x dx C : Addr} {name : Str} {v : Value} {es : List DictEntry} {k : Nat} {attr : Option Value} {Q : Value → Loc → Led → Prop} (hx : Mm (x, instObj C dx) n) (hd : Mm (dx, dictOf es k) n) (hg : plainGet K C name = true) (hh : hasDictIn K C = true)
    (ha : findIn K (.ref C) name = some attr) (hn : noGet K attr = true) (hl : getL name es = some (some v)) (hv : handedIn v = true) (h : Q v l n) : GtA (.ref x) name c l n Q X :=
  fun s₀ s m z => get_own z.F c.X (z.inst hx hd) hg hh ha hn hl hv ((z.toks _).end h)
theorem GtM.inst {x dx C f : Addr} {name : Str} {es : List DictEntry} {k : Nat} {pl : Sem Bool} {Q : Value × List Value → Loc → Led → Prop} (hx : Mm (x, instObj C dx) n) (hd : Mm (dx, dictOf es k) n) (hg : plainGet K C name = true)
    (hf : findIn K (.ref C) name = some (some (.ref f))) (ht : isFn K (.ref f) = true) (hl : getL name es = some Option.none) (h : Q (.ref f, [.ref x]) l n) : GtM (.ref x) name pl c l n Q X :=
  fun s₀ s m z => method_inst z.F c.X (z.inst hx hd) hg hf ht hl (z.end h)
theorem StA.own {x dx C : Addr} {name : Str} {v : Value} {es es' : List DictEntry} {k k' : Nat} {D : Obj → Led} {Q : Unit → Loc → Led → Prop} (hx : Mm (x, instObj C dx) n) (hd : Put n dx (dictOf es k) D)
    (hs : findIn K (.ref C) "__setattr__" = some (some (.builtin "object.__setattr__"))) (hp : plainOver K C = true) (ht : takerIn K C name = some Option.none) (hh : hasDictIn K C = true) (hl : (getL name es).isSome = true)
    (e : ∀ hsh t, (putL name hsh (.str name t) v es, putN name es k) = (es', k')) (hz : es'.length ≤ 1000) (h : Q () l (D (dictOf es' k'))) : StA (.ref x) name v c l n Q X :=
  fun s₀ s m z => set_dict z.F c.X z.M (z.inst hx (.of hd.mem)) rfl hs hp ht hh hl (e _ _) (z.upd hd _) hz fun h' F N => (z.put hd F N).end h
theorem StA.ownNew {x dx C : Addr} {name : Str} {v : Value} {es : List DictEntry} {k : Nat} {D : Obj → Led} {Q : Unit → Loc → Led → Prop} (hx : Mm (x, instObj C dx) n) (hd : Put n dx (dictOf es k) D)
    (hs : findIn K (.ref C) "__setattr__" = some (some (.builtin "object.__setattr__"))) (hp : plainOver K C = true) (ht : takerIn K C name = some Option.none) (hh : hasDictIn K C = true) (hl : (getL name es).isSome = true)
    (e : ∀ hsh t, putL name hsh (.str name t) v es = es ++ [⟨hsh, .str name t, v⟩]) (e' : putN name es k = k + 1) (hz : (es.length + 1) ≤ 1000) (h : ∀ t, Q () l (D (dictOf (es ++ [⟨PyData.keyHash w.params name, .str name t, v⟩]) (k + 1)))) : StA (.ref x) name v c l n Q X :=
  fun s₀ s m z => set_dict z.F c.X z.M (z.inst hx (.of hd.mem)) rfl hs hp ht hh hl (by rw [e, e']) (z.upd hd _) (by simpa using hz) fun h' F N => (z.put hd F N).end (h _)
theorem CaV.cls {C fI : Addr} {args : List Value} {Q : Value → Loc → Led → Prop} (hm : makesIn K C = true) (hi : findIn K (.ref C) "__init__" = some (some (.ref fI))) (hf : isFn K (.ref fI) = true) (hr : 1 ≤ c.room)
    (h : ∀ x dx, CdV (.ref fI) (.ref x :: args) [] (c.under C args hr) l ((x, instObj C dx) :: (dx, dictOf [] 0) :: n) (fun r l n => r = .none ∧ Q (.ref x) l n) NoX) : CaV (.ref C) args c l n Q X := by
  intro s₀ s m z
  refine call_cls z.F c.X z.M hm hi hf fun x dx h' F N h1 h2 => ?_
  have z₁ : At c s₀ { s with heap := h' } m l ((dx, dictOf [] 0) :: n) := z.new (t := s.toks) F (fun p hp => N p (.tail _ hp)) h1
  have z₂ : At c s₀ { s with heap := h' } m l ((x, instObj C dx) :: (dx, dictOf [] 0) :: n) := z₁.new (t := s.toks) F N fun p hp => by
    rw [List.cons_append] at hp
    rcases List.mem_cons.mp hp with rfl | hp
    · exact h2
    · exact Nat.lt_trans (h1 p hp) h2
  refine codeAny_mono (h x dx s₀ _ m z₂.toUnder) fun r s' q => ?_
  rcases r with e | (v | _ | _ | _) <;> first | exact q.elim | skip
  obtain ⟨m', l', n', y, rfl, q⟩ := q
  exact ⟨rfl, y.ofUnder.end q⟩
end
-- part NtI
theorem RetK.int {Q : Value → Loc → Led → Prop} {l l' : Loc} {n' n'' : Led} {i j : Int} {t : Tok} (e : i = j) (h : Q (.int j t) l n'') (hs : Sel n'' n') : RetK Q l (.ret (.int i t)) l' n' := by subst e; exact RetK.of h hs
theorem RetK.str {Q : Value → Loc → Led → Prop} {l l' : Loc} {n' n'' : Led} {i j : Str} {t : Tok} (e : i = j) (h : Q (.str j t) l n'') (hs : Sel n'' n') : RetK Q l (.ret (.str i t)) l' n' := by subst e; exact RetK.of h hs
theorem index_digit : ∀ d : Fin 10, Builtin.Str.occurrences (Str.ofString "0123456789") ⟨#[48 + d.1]⟩ 0 (Str.ofString "0123456789").length 1 = [d.1] := by decide +kernel
section
variable {pr : Program} {w : World} {K : Frag} {sc : Scope} {c : Cx pr w K sc} {l : Loc} {n : Led} {X : Exc} {Q : Value → Loc → Led → Prop} {v : Value}
theorem CaV.index_digit {a : Nat} {t u : Tok} (h0 : 48 ≤ a) (h1 : a < 58) (h : ∀ k, Q (.int ((a - 48 : Nat) : Int) k) l n) : CaV (.builtin "str.index") [.str (Str.ofString "0123456789") t, .str ⟨#[a]⟩ u] c l n Q X := by
  refine CaV.index (i := a - 48) (r := []) ?_ h
  have := Mine.index_digit ⟨a - 48, by omega⟩
  rwa [show 48 + (a - 48) = a by omega] at this
theorem CaV.joinL {x : Str} {t : Tok} {d : Addr} {its : List Value} {k : Nat} {ys : List Str} (hm : Mm (d, listOf its.toArray k) n) (hs : StrsAre its ys) (hz : (ys.map (·.length)).sum + ys.length * x.length ≤ 16777216) (h : ∀ k, Q (.str (Txt.join x ys) k) l n) : CaV (.builtin "str.join") [.str x t, .ref d] c l n Q X :=
  CaV.join hm hs hz h
theorem CmO.is_none_t (e : (v == .none) = true) (h : Q (.bool true) l n) : CmO .Is v .none c l n Q X := CmO.is_none (by rw [e]; exact h)
theorem CmO.is_none_f (e : (v == .none) = false) (h : Q (.bool false) l n) : CmO .Is v .none c l n Q X := CmO.is_none (by rw [e]; exact h)
theorem CmO.isnot_none_t (e : (v == .none) = true) (h : Q (.bool false) l n) : CmO .IsNot v .none c l n Q X := CmO.isnot_none (by rw [e]; exact h)
theorem CmO.isnot_none_f (e : (v == .none) = false) (h : Q (.bool true) l n) : CmO .IsNot v .none c l n Q X := CmO.isnot_none (by rw [e]; exact h)
end
local macro_rules | `(tactic| walk_at "CmO Is") => `(tactic| first | (refine' CmO.is_none_f ?he ?_; (case he => first | assumption | with_unfolding_all rfl)) | (refine' CmO.is_none_t ?he ?_; (case he => first | assumption | with_unfolding_all rfl)))
local macro_rules | `(tactic| walk_at "CmO IsNot") => `(tactic| first | (refine' CmO.isnot_none_f ?he ?_; (case he => first | assumption | with_unfolding_all rfl)) | (refine' CmO.isnot_none_t ?he ?_; (case he => first | assumption | with_unfolding_all rfl)))
local macro_rules | `(tactic| walk_at "k_sel") => `(tactic| with_reducible (first | exact Sel.refl | exact Sel.nil | (refine' Sel.take ?rm ?_; (case rm => walk_at "k_rm"); walk_at "k_sel") | (refine Sel.skip ?_; walk_at "k_sel")))
local macro_rules | `(tactic| walk_at "k_rm") => `(tactic| with_reducible (first | exact Rm.head | (refine Rm.tail ?_; walk_at "k_rm")))
local macro_rules | `(tactic| walk_at "k_rem") => `(tactic| with_reducible (first | exact Rem.head | (refine Rem.tail ?_; walk_at "k_rem")))
local macro_rules | `(tactic| walk_at "ExS For") => `(tactic| refine ExS.for_ ?_)
local macro_rules | `(tactic| walk_at "ExS While") => `(tactic| refine ExS.while_ ?_)
local macro_rules | `(tactic| walk_at "FoL") => `(tactic| refine FoL.turn ?_)
local macro_rules | `(tactic| walk_at "WhL") => `(tactic| refine WhL.turn ?_)
local macro_rules | `(tactic| walk_at "CoL") => `(tactic| refine CoL.turn ?_)
local macro_rules | `(tactic| walk_at "ItR ref") => `(tactic| first
  | (refine' ItR.list ?hm ?_; (case hm => k_mem); intro _ _ _)
  | (refine' ItR.range ?hm ?hs ?_; (case hm => k_mem); (case hs => first | assumption | rfl); intro _ _ _))
local macro_rules | `(tactic| walk_at "ItR str") => `(tactic| (refine' ItR.str ?ha ?_; (case ha => first | assumption | decide +kernel); intro _ _ _))
local macro_rules | `(tactic| walk_at "ItR bytes") => `(tactic| (refine ItR.bytes ?_; intro _ _ _))
local macro_rules | `(tactic| walk_at "NxT ref") => `(tactic| first
  | (refine' NxT.str_item ?hp ?ho ?hx ?_; (case hp => k_upd); (case ho => with_reducible assumption); (case hx => rfl); intro _ _ _)
  | (refine' NxT.str_end ?hm ?hr ?ho ?hx ?_; (case hm => k_mem); (case hr => walk_at "k_rem"); (case ho => with_reducible assumption); (case hx => rfl))
  | (refine' NxT.bytes_item ?hp ?ho ?hx ?_; (case hp => k_upd); (case ho => with_reducible assumption); (case hx => rfl); intro _ _ _)
  | (refine' NxT.bytes_end ?hm ?hr ?ho ?hx ?_; (case hm => k_mem); (case hr => walk_at "k_rem"); (case ho => with_reducible assumption); (case hx => rfl))
  | (refine' NxT.list_item ?hp ?ho ?hm ?hx ?_; (case hp => k_upd); (case ho => with_reducible assumption); (case hm => k_mem); (case hx => rfl); intro _ _)
  | (refine' NxT.list_end ?hm' ?hr ?ho ?hm ?hx ?_; (case hm' => k_mem); (case hr => walk_at "k_rem"); (case ho => with_reducible assumption); (case hm => k_mem); (case hx => rfl))
  | (refine' NxT.range_item ?hp ?ho ?hx ?_; (case hp => k_upd); (case ho => with_reducible assumption); (case hx => decide); intro _ _ _)
  | (refine' NxT.range_end ?hm ?hr ?ho ?hx ?_; (case hm => k_mem); (case hr => walk_at "k_rem"); (case ho => with_reducible assumption); (case hx => decide)))
local macro_rules | `(tactic| walk_at "nextK none") => `(tactic| refine nextK_none ?_)
local macro_rules | `(tactic| walk_at "nextK some") => `(tactic| refine nextK_some ?_)
local macro_rules | `(tactic| walk_at "loopK next") => `(tactic| refine loopK_next ?_)
local macro_rules | `(tactic| walk_at "loopK cont") => `(tactic| refine loopK_cont ?_)
local macro_rules | `(tactic| walk_at "loopK brk") => `(tactic| refine loopK_brk ?_)
local macro_rules | `(tactic| walk_at "AsT Name") => `(tactic| refine AsT.name ?_)
local macro_rules | `(tactic| walk_at "AsT Tuple") => `(tactic| (refine' AsT.tuple ?hm ?hn ?hst ?_; (case hm => k_mem); (case hn => rfl); (case hst => rfl)))
local macro_rules | `(tactic| walk_at "AsO cons") => `(tactic| refine AsO.cons ?_)
local macro_rules | `(tactic| walk_at "AsO nil") => `(tactic| refine AsO.nil ?_)
local macro_rules | `(tactic| walk_at "EvE ListComp") => `(tactic| (refine' EvE.listComp ?hF ?hcl ?_; (case hF => exact CoF.of (by decide +kernel)); (case hcl => rfl)))
local macro_rules | `(tactic| walk_at "ExS Assign") => `(tactic| (with_reducible refine' ExS.asgComp ?hF ?hcl ?hy ?_ ?hs ?hsw; (case hs => walk_at "u"); (case hsw => with_unfolding_all rfl); (case hF => exact CoF.of (by decide +kernel)); (case hcl => with_unfolding_all rfl); (case hy => decide +kernel)))
local macro_rules | `(tactic| walk_at "CoK") => `(tactic| (refine' CoK.mk ?hself ?_; (case hself => first | exact ItSelf.list (by k_mem) (by with_reducible assumption) | exact ItSelf.str (by k_mem) (by with_reducible assumption) | exact ItSelf.bytes (by k_mem) (by with_reducible assumption) | exact ItSelf.range (by k_mem) (by with_reducible assumption)); intro _ _ _ _))
local macro_rules | `(tactic| walk_at "TsL nil") => `(tactic| refine TsL.nil ?_)
local macro_rules | `(tactic| walk_at "TsL cons") => `(tactic| refine TsL.one ?_)
local macro_rules | `(tactic| walk_at "EvE Subscript") => `(tactic| refine EvE.subSl ?_)
local macro_rules | `(tactic| walk_at "EvP none") => `(tactic| refine EvP.no ?_)
local macro_rules | `(tactic| walk_at "EvP some") => `(tactic| refine EvP.ex ?_)
local macro_rules | `(tactic| walk_at "SlT str none int") => `(tactic| (refine' SlT.str_ns ?hz ?_ ?hs ?ht; (case hz => walk_at "z"); (case hs => walk_at "u"); (case ht => walk_at "u"); intro _))
local macro_rules | `(tactic| walk_at "SlT str int none") => `(tactic| (refine' SlT.str_sn ?hz ?_ ?hs ?ht; (case hz => walk_at "z"); (case hs => walk_at "u"); (case ht => walk_at "u"); intro _))
local macro_rules | `(tactic| walk_at "SlT str int int") => `(tactic| (refine' SlT.str_ss ?hz ?_ ?hs ?ht; (case hz => walk_at "z"); (case hs => walk_at "u"); (case ht => walk_at "u"); intro _))
local macro_rules | `(tactic| walk_at "SlT ref none none int") => `(tactic| (refine' SlT.list_rev ?hd ?hz ?_ ?hs ?ht; (case hd => k_mem); (case hz => walk_at "z"); (case hs => walk_at "u"); (case ht => walk_at "u"); intro _))
local macro_rules | `(tactic| walk_at "SbT str int") => `(tactic| (refine' SbT.str ?hr ?h1 ?h2 ?_ ?hs ?ht; (case hr => decide); (case h1 => decide); (case h2 => decide); (case hs => with_unfolding_all rfl); (case ht => walk_at "u"); intro _))
local macro_rules | `(tactic| walk_at "SbT bytes int") => `(tactic| (refine' SbT.bytes ?hf ?h0 ?h1 ?he ?_ ?hs ?ht; (case hf => decide); (case h0 => decide); (case h1 => decide); (case he => rfl); (case hs => with_unfolding_all rfl); (case ht => walk_at "u"); intro _))
local macro_rules | `(tactic| walk_at "SbT ref int") => `(tactic| (refine' SbT.tuple ?hm ?hlo ?hhi ?hj ?hx ?_ ?hs; (case hm => k_mem); (case hlo => decide); (case hhi => decide); (case hj => rfl); (case hx => rfl); (case hs => with_unfolding_all rfl)))
local macro_rules | `(tactic| walk_at "NwT") => `(tactic| (refine NwT.mk ?_; intro _))
local macro_rules | `(tactic| walk_at "CaV builtin:isinstance") => `(tactic| first | refine CaV.isi_int_int ?_ | refine CaV.isi_int_str ?_ | refine CaV.isi_int_bytes ?_ | refine CaV.isi_str_int ?_ | refine CaV.isi_str_str ?_ | refine CaV.isi_str_bytes ?_ | refine CaV.isi_none_bytes ?_ | refine CaV.isi_bytes_int ?_ | refine CaV.isi_bytes_str ?_ | refine CaV.isi_bytes_bytes ?_)
local macro_rules | `(tactic| walk_at "CmO Lt bytes bytes") => `(tactic| refine CmO.lt_bb ?_)
local macro_rules | `(tactic| walk_at "CmO NotIn str str") => `(tactic| refine CmO.notin_ss ?_)
local macro_rules | `(tactic| walk_at "BiO Add str str") => `(tactic| (refine' BiO.add_ss ?hz ?_; (case hz => walk_at "z"); intro _))
local macro_rules | `(tactic| walk_at "EvE Constant") => `(tactic| (refine EvE.bytes ?_; intro _))
local macro_rules | `(tactic| walk_at "CaV builtin:len") => `(tactic| first
  | (refine' CaV.len_s ?hx ?_; (case hx => first | assumption | decide); intro _)
  | (refine' CaV.len_b ?hx ?_; (case hx => first | assumption | decide); intro _)
  | (refine' CaV.len_l ?hm ?hz ?_; (case hm => k_mem); (case hz => walk_at "z"); intro _))
local macro_rules | `(tactic| walk_at "CaV builtin:ord") => `(tactic| (refine CaV.ord ?_; intro _))
local macro_rules | `(tactic| walk_at "CaV builtin:chr") => `(tactic| (refine' CaV.chr ?h0 ?h1 ?_; (case h0 => first | decide | omega); (case h1 => first | decide | omega); intro _))
local macro_rules | `(tactic| walk_at "CaV builtin:list.append") => `(tactic| (refine' CaV.append ?hp ?hz ?_; (case hp => k_upd); (case hz => walk_at "z")))
local macro_rules | `(tactic| walk_at "GtM ref") => `(tactic| first
  | (refine' GtM.append ?hm ?_; (case hm => k_mem))
  | (refine' GtM.inst ?hx ?hd ?hg ?hf ?ht ?hl ?_; (case hx => k_mem); (case hd => k_mem); (case hg => k_dflt k_is); (case hf => k_dflt k_is); (case ht => k_dflt k_is); (case hl => k_get)))
local macro_rules | `(tactic| walk_at "GtM str") => `(tactic| first | refine GtM.lower ?_ | refine GtM.join ?_ | refine GtM.index ?_ | refine GtM.lstrip ?_ | refine GtM.rstrip ?_)
local macro_rules | `(tactic| walk_at "GtA ref") => `(tactic| (refine' GtA.own ?hx ?hd ?hg ?hh ?ha ?hn ?hl ?hv ?_; (case hx => k_mem); (case hd => k_mem); (case hg => k_dflt k_is); (case hh => k_dflt k_is); (case ha => k_dflt k_is); (case hn => k_dflt k_is); (case hl => k_get); (case hv => k_handed)))
local macro_rules | `(tactic| walk_at "StA ref") => `(tactic| first
  | (refine' StA.own ?hx ?hd ?hs ?hp ?ht ?hh ?hl ?he ?hz ?_; (case hx => k_mem); (case hd => k_upd); (case hs => k_dflt k_is); (case hp => k_dflt k_is); (case ht => k_dflt k_is); (case hh => k_dflt k_is); (case hl => k_get); (case he => (intro _ _; k_put)); (case hz => exact Nat.le_of_ble_eq_true rfl))
  | (refine' StA.ownNew ?hx ?hd ?hs ?hp ?ht ?hh ?hl ?he ?he' ?hz ?_; (case hx => k_mem); (case hd => k_upd); (case hs => k_dflt k_is); (case hp => k_dflt k_is); (case ht => k_dflt k_is); (case hh => k_dflt k_is); (case hl => k_get); (case he => (intro _ _; rfl)); (case he' => rfl); (case hz => exact Nat.le_of_ble_eq_true rfl); intro _))
local macro_rules | `(tactic| walk_at "Tru ref") => `(tactic| (refine' Tru.list ?hm ?hz ?_; (case hm => k_mem); (case hz => walk_at "z")))
local macro_rules | `(tactic| walk_at "CaV builtin:str.index") => `(tactic| (refine' CaV.index_digit ?h0 ?h1 ?_; (case h0 => decide); (case h1 => decide); intro _))
local macro_rules | `(tactic| walk_at "CaV builtin:str.lstrip") => `(tactic| (refine' CaV.lstrip ?he ?_; (case he => decide); intro _))
local macro_rules | `(tactic| walk_at "CaV type:range") => `(tactic| first | (refine CaV.range1 ?_; intro _ _ _) | (refine CaV.range2 ?_; intro _ _))
local macro_rules | `(tactic| walk_at "CaV builtin:str.join") => `(tactic| (refine' CaV.joinL ?hm ?hs ?hz ?_; (case hm => k_mem); (case hs => first | assumption | (repeat constructor)); (case hz => walk_at "z"); intro _))
-- part NtV
def texts : List Str := [⟨#[]⟩, ⟨#[97]⟩, ⟨#[65]⟩, ⟨#[97, 98]⟩, ⟨#[66]⟩, ⟨#[98, 32]⟩, ⟨#[98]⟩, ⟨#[55]⟩, ⟨#[32, 45, 49, 50, 120]⟩, ⟨#[57]⟩]
def blobs : List (List UInt8) := [[], [49], [97, 0], [255]]
inductive Okv : Value → Prop
  | none : Okv .none
  | int {i : Int} {t : Tok} : -9223372036854775808 ≤ i → i ≤ 9223372036854775808 → Okv (.int i t)
  | str {x : Str} {t : Tok} : x ∈ texts → Okv (.str x t)
  | bytes {x : List UInt8} {t : Tok} : x ∈ blobs → Okv (.bytes x.toArray t)
def numS (x : Str) : Int := if x = ⟨#[55]⟩ then 7 else if x = ⟨#[57]⟩ then 9 else if x = ⟨#[32, 45, 49, 50, 120]⟩ then -12 else 0
def numB (x : Array UInt8) : Int := if x = #[49] then 1 else 0
def num : Value → Int
  | .int i _ => i
  | .str x _ => numS x
  | .bytes x _ => numB x
  | _ => 0
def foldS (x : Str) : Str := ⟨(x.cps.toList.map fun c => if 65 ≤ c ∧ c ≤ 90 then c + 32 else c).toArray⟩
def rtrimS (x : Str) : Str := ⟨((x.cps.toList.reverse.dropWhile (· == 32)).reverse).toArray⟩
def colls : List Str := [Str.ofString "binary", Str.ofString "nocase", Str.ofString "rtrim"]
def colS (k x : Str) : Str := if k = Str.ofString "nocase" then foldS x else if k = Str.ofString "rtrim" then rtrimS x else x
theorem fill (w : World) : (Mine.heap w.params).length = (Mine.heap w.params).length ∧ PySem.Challenge.rw_nt0101_01 = PySem.Challenge.rw_nt0101_01 := by
  k_fill
  exact ⟨rfl, rfl⟩
abbrev prg := PySem.Challenge.pw_nt0101_01
-- part C1
section
variable {w : World} {sc : Scope} {c : Cx prg w (Mine.heap w.params) sc} {l : Loc} {n : Led} {X : Exc}
theorem storage_int {Q : Value → Loc → Led → Prop} {i : Int} {t : Tok} (hr : 1 ≤ c.room) (h : ∀ t, Q (.str (Str.ofString "integer") t) l n) : CaV (.ref 94) [.int i t] c l n Q X := by
  refine' W.callDef (binds := [(Str.ofString "v", .int i t)]) (xs := [Str.ofString "v"]) ?ho ?hcd ?hbind rfl ?hok (by omega) ?_
  case ho => k_dflt k_is
  case hcd => k_dflt k_is
  case hbind => exact fun s _ => BindsTo.of_eq rfl
  case hok => decide +kernel
  intro c' hr' own' hz'
  change ExL _ c' _ _ _ _
  w_strict walk
  exact RetK.of (h _) Sel.refl
theorem storage_str {Q : Value → Loc → Led → Prop} {x : Str} {t : Tok} (hr : 1 ≤ c.room) (h : ∀ t, Q (.str (Str.ofString "text") t) l n) : CaV (.ref 94) [.str x t] c l n Q X := by
  refine' W.callDef (binds := [(Str.ofString "v", .str x t)]) (xs := [Str.ofString "v"]) ?ho ?hcd ?hbind rfl ?hok (by omega) ?_
  case ho => k_dflt k_is
  case hcd => k_dflt k_is
  case hbind => exact fun s _ => BindsTo.of_eq rfl
  case hok => decide +kernel
  intro c' hr' own' hz'
  change ExL _ c' _ _ _ _
  w_strict walk
  exact RetK.of (h _) Sel.refl
theorem storage_bytes {Q : Value → Loc → Led → Prop} {x : Array UInt8} {t : Tok} (hr : 1 ≤ c.room) (h : ∀ t, Q (.str (Str.ofString "blob") t) l n) : CaV (.ref 94) [.bytes x t] c l n Q X := by
  refine' W.callDef (binds := [(Str.ofString "v", .bytes x t)]) (xs := [Str.ofString "v"]) ?ho ?hcd ?hbind rfl ?hok (by omega) ?_
  case ho => k_dflt k_is
  case hcd => k_dflt k_is
  case hbind => exact fun s _ => BindsTo.of_eq rfl
  case hok => decide +kernel
  intro c' hr' own' hz'
  change ExL _ c' _ _ _ _
  w_strict walk
  exact RetK.of (h _) Sel.refl
theorem sign_int {Q : Value → Loc → Led → Prop} {a b : Int} {t u : Tok} (hr : 1 ≤ c.room) (h : ∀ t, Q (.int (if a < b then -1 else if b < a then 1 else 0) t) l n) : CaV (.ref 108) [.int a t, .int b u] c l n Q X := by
  refine' W.callDef (binds := [(Str.ofString "one", .int a t), (Str.ofString "other", .int b u)]) (xs := [Str.ofString "one", Str.ofString "other"]) ?ho ?hcd ?hbind rfl ?hok (by omega) ?_
  case ho => k_dflt k_is
  case hcd => k_dflt k_is
  case hbind => exact fun s _ => BindsTo.of_eq rfl
  case hok => decide +kernel
  intro c' hr' own' hz'
  change ExL _ c' _ _ _ _
  w_strict walk
  · rename_i q _ _; simp only [if_pos q] at h; exact RetK.of (h _) Sel.refl
  · rename_i q q' _; simp only [if_neg q, if_pos q'] at h; exact RetK.of (h _) Sel.refl
  · rename_i q q' _; simp only [if_neg q, if_neg q'] at h; exact RetK.of (h _) Sel.refl
theorem sign_str {Q : Value → Loc → Led → Prop} {x y : Str} {t u : Tok} (hr : 1 ≤ c.room) (h : ∀ t, Q (.int (if x.cps.toList < y.cps.toList then -1 else if y.cps.toList < x.cps.toList then 1 else 0) t) l n) : CaV (.ref 108) [.str x t, .str y u] c l n Q X := by
  refine' W.callDef (binds := [(Str.ofString "one", .str x t), (Str.ofString "other", .str y u)]) (xs := [Str.ofString "one", Str.ofString "other"]) ?ho ?hcd ?hbind rfl ?hok (by omega) ?_
  case ho => k_dflt k_is
  case hcd => k_dflt k_is
  case hbind => exact fun s _ => BindsTo.of_eq rfl
  case hok => decide +kernel
  intro c' hr' own' hz'
  change ExL _ c' _ _ _ _
  w_strict walk
  · rename_i q _ _; simp only [if_pos q] at h; exact RetK.of (h _) Sel.refl
  · rename_i q q' _; simp only [if_neg q, if_pos q'] at h; exact RetK.of (h _) Sel.refl
  · rename_i q q' _; simp only [if_neg q, if_neg q'] at h; exact RetK.of (h _) Sel.refl
theorem sign_bytes {Q : Value → Loc → Led → Prop} {x y : Array UInt8} {t u : Tok} (hr : 1 ≤ c.room)
    (h : ∀ t, Q (.int (if Builtin.Bytes.order x.toList y.toList = .lt then -1 else if Builtin.Bytes.order y.toList x.toList = .lt then 1 else 0) t) l n) : CaV (.ref 108) [.bytes x t, .bytes y u] c l n Q X := by
  refine' W.callDef (binds := [(Str.ofString "one", .bytes x t), (Str.ofString "other", .bytes y u)]) (xs := [Str.ofString "one", Str.ofString "other"]) ?ho ?hcd ?hbind rfl ?hok (by omega) ?_
  case ho => k_dflt k_is
  case hcd => k_dflt k_is
  case hbind => exact fun s _ => BindsTo.of_eq rfl
  case hok => decide +kernel
  intro c' hr' own' hz'
  change ExL _ c' _ _ _ _
  w_strict walk
  · rename_i q _ _; simp only [if_pos (eq_of_beq q)] at h; exact RetK.of (h _) Sel.refl
  · rename_i q q' _; simp only [if_neg (ne_of_beq_false q), if_pos (eq_of_beq q')] at h; exact RetK.of (h _) Sel.refl
  · rename_i q q' _; simp only [if_neg (ne_of_beq_false q), if_neg (ne_of_beq_false q')] at h; exact RetK.of (h _) Sel.refl
theorem lead_low {Q : Value → Loc → Led → Prop} {o : Int} {t : Tok} (hr : 1 ≤ c.room) (h0 : o < 128) (h : ∀ a t u v, Q (.ref a) l ((a, tupOf [.int 0 t, .int o u, .int 0 v]) :: n)) : CaV (.ref 66) [.int o t] c l n Q X := by
  refine' W.callDef (binds := [(Str.ofString "octet", .int o t)]) (xs := [Str.ofString "octet"]) ?ho ?hcd ?hbind rfl ?hok (by omega) ?_
  case ho => k_dflt k_is
  case hcd => k_dflt k_is
  case hbind => exact fun s _ => BindsTo.of_eq rfl
  case hok => decide +kernel
  intro c' hr' own' hz'
  change ExL _ c' _ _ _ _
  w_strict walk
  exact RetK.of (h _ _ _ _) Sel.refl
theorem lead_255 {Q : Value → Loc → Led → Prop} {t : Tok} (hr : 1 ≤ c.room) (h : Q .none l n) : CaV (.ref 66) [.int 255 t] c l n Q X := by
  refine' W.callDef (binds := [(Str.ofString "octet", .int 255 t)]) (xs := [Str.ofString "octet"]) ?ho ?hcd ?hbind rfl ?hok (by omega) ?_
  case ho => k_dflt k_is
  case hcd => k_dflt k_is
  case hbind => exact fun s _ => BindsTo.of_eq rfl
  case hok => decide +kernel
  intro c' hr' own' hz'
  change ExL _ c' _ _ _ _
  w_strict walk
  exact RetK.of h Sel.refl
end
-- part C2
section
variable {w : World} {sc : Scope} {c : Cx prg w (Mine.heap w.params) sc} {l : Loc} {n : Led} {X : Exc}
end
local macro_rules | `(tactic| walk_at "CaV ref") => `(tactic| first
  | ((first | refine' storage_int ?hr ?_ | refine' storage_str ?hr ?_ | refine' storage_bytes ?hr ?_ | refine' sign_int ?hr ?_ | refine' sign_str ?hr ?_ | refine' sign_bytes ?hr ?_); (case hr => omega); intro _)
  | (refine' lead_255 ?hr ?_; (case hr => omega)) | (refine' lead_low ?hr ?h0 ?_; (case hr => omega); (case h0 => decide); intro _ _ _ _))
section
variable {w : World} {sc : Scope} {c : Cx prg w (Mine.heap w.params) sc} {l : Loc} {n : Led} {X : Exc}
theorem code_at_ok {Q : Value → Loc → Led → Prop} {bs : List UInt8} {a o : Int} {tb ta t0 t1 t2 : Tok} {d : Addr} (hr : 1 ≤ c.room) (hd : Mm (d, tupOf [.int 0 t0, .int o t1, .int 0 t2]) n)
    (h1 : a + 0 ≤ (bs.toArray.size : Int)) (h2 : bs.toArray.size ≤ sizeLine) (h3 : 0 ≤ o) (h4 : o ≤ 1114111) (hsm : Builtin.Range.small a (a + 0) 1 = true) (hsz : Builtin.Range.rangeSize a (a + 0) 1 ≤ 0)
    (h : ∀ t, Q (.int o t) l n) : CaV (.ref 80) [.bytes bs.toArray tb, .int a ta, .ref d] c l n Q X := by
  refine' W.callDef (binds := [(Str.ofString "octets", .bytes bs.toArray tb), (Str.ofString "at", .int a ta), (Str.ofString "lead", .ref d)]) (xs := [Str.ofString "octets", Str.ofString "at", Str.ofString "lead"]) ?ho ?hcd ?hbind rfl ?hok (by omega) ?_
  case ho => k_dflt k_is
  case hcd => k_dflt k_is
  case hbind => exact fun s _ => BindsTo.of_eq rfl
  case hok => decide +kernel
  intro c' hr' own' hz'
  change ExL _ c' _ _ _ _
  w_strict walk
  refine FoE.of 1 (FoL.turn ?_)
  refine' NxT.range_end ?hm ?hr' (by with_reducible assumption) hsz ?_
  case hm => k_mem
  case hr' => walk_at "k_rem"
  w_strict walk
  exact RetK.of (h _) (by walk_at "k_sel")
end
local macro_rules | `(tactic| walk_at "CaV ref") => `(tactic| (refine' code_at_ok ?hr ?hd ?h1 ?h2 ?h3 ?h4 ?hsm ?hsz ?_; (case hr => omega); (case hd => k_mem); (case h1 => decide); (case h2 => decide); (case h3 => decide); (case h4 => decide); (case hsm => decide); (case hsz => decide); intro _))
section
variable {w : World} {sc : Scope} {c : Cx prg w (Mine.heap w.params) sc} {l : Loc} {n : Led} {X : Exc}
theorem text_of_nil {Q : Value → Loc → Led → Prop} {t : Tok} (hr : 2 ≤ c.room) (h : ∀ t, Q (.str ⟨#[]⟩ t) l n) : CaV (.ref 73) [.bytes ([] : List UInt8).toArray t] c l n Q X := by
  refine' W.callDef (binds := [(Str.ofString "octets", .bytes ([] : List UInt8).toArray t)]) (xs := [Str.ofString "octets"]) ?ho ?hcd ?hbind rfl ?hok (by omega) ?_
  case ho => k_dflt k_is
  case hcd => k_dflt k_is
  case hbind => exact fun s _ => BindsTo.of_eq rfl
  case hok => decide +kernel
  intro c' hr' own' hz'
  change ExL _ c' _ _ _ _
  w_strict walk
  refine WhE.of 4 ?_
  w_strict walk
  exact RetK.of (h _) (by walk_at "k_sel")
theorem text_of_49 {Q : Value → Loc → Led → Prop} {t : Tok} (hr : 2 ≤ c.room) (h : ∀ t, Q (.str ⟨#[49]⟩ t) l n) : CaV (.ref 73) [.bytes ([49] : List UInt8).toArray t] c l n Q X := by
  refine' W.callDef (binds := [(Str.ofString "octets", .bytes ([49] : List UInt8).toArray t)]) (xs := [Str.ofString "octets"]) ?ho ?hcd ?hbind rfl ?hok (by omega) ?_
  case ho => k_dflt k_is
  case hcd => k_dflt k_is
  case hbind => exact fun s _ => BindsTo.of_eq rfl
  case hok => decide +kernel
  intro c' hr' own' hz'
  change ExL _ c' _ _ _ _
  w_strict walk
  refine WhE.of 4 ?_
  w_strict walk
  exact RetK.of (h _) (by walk_at "k_sel")
theorem text_of_255 {Q : Value → Loc → Led → Prop} {t : Tok} (hr : 2 ≤ c.room) (h : ∀ t, Q (.str ⟨#[65533]⟩ t) l n) : CaV (.ref 73) [.bytes ([255] : List UInt8).toArray t] c l n Q X := by
  refine' W.callDef (binds := [(Str.ofString "octets", .bytes ([255] : List UInt8).toArray t)]) (xs := [Str.ofString "octets"]) ?ho ?hcd ?hbind rfl ?hok (by omega) ?_
  case ho => k_dflt k_is
  case hcd => k_dflt k_is
  case hbind => exact fun s _ => BindsTo.of_eq rfl
  case hok => decide +kernel
  intro c' hr' own' hz'
  change ExL _ c' _ _ _ _
  w_strict walk
  refine WhE.of 4 ?_
  w_strict walk
  exact RetK.of (h _) (by walk_at "k_sel")
theorem text_of_97 {Q : Value → Loc → Led → Prop} {t : Tok} (hr : 2 ≤ c.room) (h : ∀ t, Q (.str ⟨#[97, 0]⟩ t) l n) : CaV (.ref 73) [.bytes ([97, 0] : List UInt8).toArray t] c l n Q X := by
  refine' W.callDef (binds := [(Str.ofString "octets", .bytes ([97, 0] : List UInt8).toArray t)]) (xs := [Str.ofString "octets"]) ?ho ?hcd ?hbind rfl ?hok (by omega) ?_
  case ho => k_dflt k_is
  case hcd => k_dflt k_is
  case hbind => exact fun s _ => BindsTo.of_eq rfl
  case hok => decide +kernel
  intro c' hr' own' hz'
  change ExL _ c' _ _ _ _
  w_strict walk
  refine WhE.of 4 ?_
  w_strict walk
  exact RetK.of (h _) (by walk_at "k_sel")
end
local macro_rules | `(tactic| walk_at "CaV ref") => `(tactic| first | ((first | refine' text_of_nil ?hr ?_ | refine' text_of_49 ?hr ?_ | refine' text_of_97 ?hr ?_ | refine' text_of_255 ?hr ?_); (case hr => omega); intro _))
section
variable {w : World} {sc : Scope} {c : Cx prg w (Mine.heap w.params) sc} {l : Loc} {n : Led} {X : Exc}
end
-- part C3
section
variable {w : World} {sc : Scope} {c : Cx prg w (Mine.heap w.params) sc} {l : Loc} {n : Led} {X : Exc}
def ltrs : List Str := [⟨#[97]⟩, ⟨#[65]⟩, ⟨#[97, 98]⟩, ⟨#[66]⟩, ⟨#[98, 32]⟩, ⟨#[98]⟩, ⟨#[97, 0]⟩, ⟨#[65533]⟩]
theorem ltr_len : ∀ x ∈ ltrs, 1 ≤ x.length ∧ x.length ≤ 5 := by decide +kernel
theorem ltr_dig : ∀ x ∈ ltrs, (!(Builtin.Str.occurrences (Str.ofString "0123456789") (Txt.item x 0) 0 (Str.ofString "0123456789").length 1).isEmpty) = false := by decide +kernel
theorem ltr_spc : ∀ x ∈ ltrs, (!(Builtin.Str.occurrences (Str.ofString " \t\n\x0b\x0c\r") (Txt.item x 0) 0 (Str.ofString " \t\n\x0b\x0c\r").length 1).isEmpty) = false := by decide +kernel
theorem ltr_pm : ∀ x ∈ ltrs, (!(Builtin.Str.occurrences (Str.ofString "+-") (Txt.item x 0) 0 (Str.ofString "+-").length 1).isEmpty) = false := by decide +kernel
theorem ltr_num : ∀ x ∈ ltrs, numS x = 0 := by decide +kernel
theorem texts_split : ∀ x ∈ texts, x = ⟨#[]⟩ ∨ x ∈ ltrs ∨ x = ⟨#[55]⟩ ∨ x = ⟨#[32, 45, 49, 50, 120]⟩ ∨ x = ⟨#[57]⟩ := by decide +kernel
section
local macro_rules | `(tactic| walk_at "brK") => `(tactic| first | refine brK_f (by assumption) ?_ | refine brK_t (by assumption) ?_)
local macro_rules | `(tactic| walk_at "SbT str int") => `(tactic| (refine' SbT.str ?hr ?h1 ?h2 ?_ ?hs ?ht; (case hr => decide); (case h1 => omega); (case h2 => omega); (case hs => with_unfolding_all rfl); (case ht => walk_at "u"); intro _))
theorem dend_g {Q : Value → Loc → Led → Prop} {x : Str} {t u : Tok} (hx : x ∈ ltrs) (hr : 1 ≤ c.room) (h : ∀ t, Q (.int 0 t) l n) : CaV (.ref 123) [.str x t, .int 0 u] c l n Q X := by
  refine' W.callDef (binds := [(Str.ofString "text", .str x t), (Str.ofString "at", .int 0 u)]) (xs := [Str.ofString "text", Str.ofString "at"]) ?ho ?hcd ?hbind rfl ?hok (by omega) ?_
  case ho => k_dflt k_is
  case hcd => k_dflt k_is
  case hbind => exact fun s _ => BindsTo.of_eq rfl
  case hok => decide +kernel
  intro c' hr' own' hz'
  change ExL _ c' _ _ _ _
  obtain ⟨l1, l2⟩ := ltr_len x hx
  have hz : x.length ≤ sizeLine := by rw [sizeLine_eq]; omega
  have hd := ltr_dig x hx
  w_strict walk
  refine WhE.of 6 ?_
  w_strict walk
  exact RetK.of (h _) (by walk_at "k_sel")
local macro_rules | `(tactic| walk_at "CaV ref") => `(tactic| (refine' dend_g ?hx ?hr ?_; (case hx => assumption); (case hr => omega); intro _))
theorem span_g {Q : Value → Loc → Led → Prop} {x : Str} {t : Tok} (hx : x ∈ ltrs) (hr : 2 ≤ c.room) (h : Q .none l n) : CaV (.ref 130) [.str x t] c l n Q X := by
  refine' W.callDef (binds := [(Str.ofString "text", .str x t)]) (xs := [Str.ofString "text"]) ?ho ?hcd ?hbind rfl ?hok (by omega) ?_
  case ho => k_dflt k_is
  case hcd => k_dflt k_is
  case hbind => exact fun s _ => BindsTo.of_eq rfl
  case hok => decide +kernel
  intro c' hr' own' hz'
  change ExL _ c' _ _ _ _
  obtain ⟨l1, l2⟩ := ltr_len x hx
  have hz : x.length ≤ sizeLine := by rw [sizeLine_eq]; omega
  have hs := ltr_spc x hx
  have hp := ltr_pm x hx
  w_strict walk
  refine WhE.of 6 ?_
  w_strict walk
  exact RetK.of h (by walk_at "k_sel")
end
theorem dend_0 {Q : Value → Loc → Led → Prop} {t u : Tok} (hr : 1 ≤ c.room) (h : ∀ t, Q (.int 0 t) l n) : CaV (.ref 123) [.str ⟨#[]⟩ t, .int 0 u] c l n Q X := by
  refine' W.callDef (binds := [(Str.ofString "text", .str ⟨#[]⟩ t), (Str.ofString "at", .int 0 u)]) (xs := [Str.ofString "text", Str.ofString "at"]) ?ho ?hcd ?hbind rfl ?hok (by omega) ?_
  case ho => k_dflt k_is
  case hcd => k_dflt k_is
  case hbind => exact fun s _ => BindsTo.of_eq rfl
  case hok => decide +kernel
  intro c' hr' own' hz'
  change ExL _ c' _ _ _ _
  w_strict walk
  refine WhE.of 6 ?_
  w_strict walk
  exact RetK.of (h _) (by walk_at "k_sel")
theorem dend_1 {Q : Value → Loc → Led → Prop} {t u : Tok} (hr : 1 ≤ c.room) (h : ∀ t, Q (.int 1 t) l n) : CaV (.ref 123) [.str ⟨#[55]⟩ t, .int 0 u] c l n Q X := by
  refine' W.callDef (binds := [(Str.ofString "text", .str ⟨#[55]⟩ t), (Str.ofString "at", .int 0 u)]) (xs := [Str.ofString "text", Str.ofString "at"]) ?ho ?hcd ?hbind rfl ?hok (by omega) ?_
  case ho => k_dflt k_is
  case hcd => k_dflt k_is
  case hbind => exact fun s _ => BindsTo.of_eq rfl
  case hok => decide +kernel
  intro c' hr' own' hz'
  change ExL _ c' _ _ _ _
  w_strict walk
  refine WhE.of 6 ?_
  w_strict walk
  exact RetK.of (h _) (by walk_at "k_sel")
theorem dend_2 {Q : Value → Loc → Led → Prop} {t u : Tok} (hr : 1 ≤ c.room) (h : ∀ t, Q (.int 4 t) l n) : CaV (.ref 123) [.str ⟨#[32, 45, 49, 50, 120]⟩ t, .int 2 u] c l n Q X := by
  refine' W.callDef (binds := [(Str.ofString "text", .str ⟨#[32, 45, 49, 50, 120]⟩ t), (Str.ofString "at", .int 2 u)]) (xs := [Str.ofString "text", Str.ofString "at"]) ?ho ?hcd ?hbind rfl ?hok (by omega) ?_
  case ho => k_dflt k_is
  case hcd => k_dflt k_is
  case hbind => exact fun s _ => BindsTo.of_eq rfl
  case hok => decide +kernel
  intro c' hr' own' hz'
  change ExL _ c' _ _ _ _
  w_strict walk
  refine WhE.of 6 ?_
  w_strict walk
  exact RetK.of (h _) (by walk_at "k_sel")
theorem dend_3 {Q : Value → Loc → Led → Prop} {t u : Tok} (hr : 1 ≤ c.room) (h : ∀ t, Q (.int 1 t) l n) : CaV (.ref 123) [.str ⟨#[57]⟩ t, .int 0 u] c l n Q X := by
  refine' W.callDef (binds := [(Str.ofString "text", .str ⟨#[57]⟩ t), (Str.ofString "at", .int 0 u)]) (xs := [Str.ofString "text", Str.ofString "at"]) ?ho ?hcd ?hbind rfl ?hok (by omega) ?_
  case ho => k_dflt k_is
  case hcd => k_dflt k_is
  case hbind => exact fun s _ => BindsTo.of_eq rfl
  case hok => decide +kernel
  intro c' hr' own' hz'
  change ExL _ c' _ _ _ _
  w_strict walk
  refine WhE.of 6 ?_
  w_strict walk
  exact RetK.of (h _) (by walk_at "k_sel")
theorem dend_4 {Q : Value → Loc → Led → Prop} {t u : Tok} (hr : 1 ≤ c.room) (h : ∀ t, Q (.int 1 t) l n) : CaV (.ref 123) [.str ⟨#[49]⟩ t, .int 0 u] c l n Q X := by
  refine' W.callDef (binds := [(Str.ofString "text", .str ⟨#[49]⟩ t), (Str.ofString "at", .int 0 u)]) (xs := [Str.ofString "text", Str.ofString "at"]) ?ho ?hcd ?hbind rfl ?hok (by omega) ?_
  case ho => k_dflt k_is
  case hcd => k_dflt k_is
  case hbind => exact fun s _ => BindsTo.of_eq rfl
  case hok => decide +kernel
  intro c' hr' own' hz'
  change ExL _ c' _ _ _ _
  w_strict walk
  refine WhE.of 6 ?_
  w_strict walk
  exact RetK.of (h _) (by walk_at "k_sel")
end
local macro_rules | `(tactic| walk_at "CaV ref") => `(tactic| first | ((first | refine' dend_0 ?hr ?_ | refine' dend_1 ?hr ?_ | refine' dend_2 ?hr ?_ | refine' dend_3 ?hr ?_ | refine' dend_4 ?hr ?_); (case hr => omega); intro _))
section
variable {w : World} {sc : Scope} {c : Cx prg w (Mine.heap w.params) sc} {l : Loc} {n : Led} {X : Exc}
theorem span_0 {Q : Value → Loc → Led → Prop} {t : Tok} (hr : 2 ≤ c.room) (h : Q .none l n) : CaV (.ref 130) [.str ⟨#[]⟩ t] c l n Q X := by
  refine' W.callDef (binds := [(Str.ofString "text", .str ⟨#[]⟩ t)]) (xs := [Str.ofString "text"]) ?ho ?hcd ?hbind rfl ?hok (by omega) ?_
  case ho => k_dflt k_is
  case hcd => k_dflt k_is
  case hbind => exact fun s _ => BindsTo.of_eq rfl
  case hok => decide +kernel
  intro c' hr' own' hz'
  change ExL _ c' _ _ _ _
  w_strict walk
  refine WhE.of 6 ?_
  w_strict walk
  exact RetK.of h (by walk_at "k_sel")
theorem span_1 {Q : Value → Loc → Led → Prop} {t : Tok} (hr : 2 ≤ c.room) (h : ∀ a t u, Q (.ref a) l ((a, tupOf [.int 0 t, .int 1 u]) :: n)) : CaV (.ref 130) [.str ⟨#[55]⟩ t] c l n Q X := by
  refine' W.callDef (binds := [(Str.ofString "text", .str ⟨#[55]⟩ t)]) (xs := [Str.ofString "text"]) ?ho ?hcd ?hbind rfl ?hok (by omega) ?_
  case ho => k_dflt k_is
  case hcd => k_dflt k_is
  case hbind => exact fun s _ => BindsTo.of_eq rfl
  case hok => decide +kernel
  intro c' hr' own' hz'
  change ExL _ c' _ _ _ _
  w_strict walk
  refine WhE.of 6 ?_
  w_strict walk
  exact RetK.of (h _ _ _) (by exact Sel.refl)
theorem span_2 {Q : Value → Loc → Led → Prop} {t : Tok} (hr : 2 ≤ c.room) (h : ∀ a t u, Q (.ref a) l ((a, tupOf [.int 1 t, .int 4 u]) :: n)) : CaV (.ref 130) [.str ⟨#[32, 45, 49, 50, 120]⟩ t] c l n Q X := by
  refine' W.callDef (binds := [(Str.ofString "text", .str ⟨#[32, 45, 49, 50, 120]⟩ t)]) (xs := [Str.ofString "text"]) ?ho ?hcd ?hbind rfl ?hok (by omega) ?_
  case ho => k_dflt k_is
  case hcd => k_dflt k_is
  case hbind => exact fun s _ => BindsTo.of_eq rfl
  case hok => decide +kernel
  intro c' hr' own' hz'
  change ExL _ c' _ _ _ _
  w_strict walk
  refine WhE.of 6 ?_
  w_strict walk
  exact RetK.of (h _ _ _) (by exact Sel.refl)
theorem span_3 {Q : Value → Loc → Led → Prop} {t : Tok} (hr : 2 ≤ c.room) (h : ∀ a t u, Q (.ref a) l ((a, tupOf [.int 0 t, .int 1 u]) :: n)) : CaV (.ref 130) [.str ⟨#[57]⟩ t] c l n Q X := by
  refine' W.callDef (binds := [(Str.ofString "text", .str ⟨#[57]⟩ t)]) (xs := [Str.ofString "text"]) ?ho ?hcd ?hbind rfl ?hok (by omega) ?_
  case ho => k_dflt k_is
  case hcd => k_dflt k_is
  case hbind => exact fun s _ => BindsTo.of_eq rfl
  case hok => decide +kernel
  intro c' hr' own' hz'
  change ExL _ c' _ _ _ _
  w_strict walk
  refine WhE.of 6 ?_
  w_strict walk
  exact RetK.of (h _ _ _) (by exact Sel.refl)
theorem span_4 {Q : Value → Loc → Led → Prop} {t : Tok} (hr : 2 ≤ c.room) (h : ∀ a t u, Q (.ref a) l ((a, tupOf [.int 0 t, .int 1 u]) :: n)) : CaV (.ref 130) [.str ⟨#[49]⟩ t] c l n Q X := by
  refine' W.callDef (binds := [(Str.ofString "text", .str ⟨#[49]⟩ t)]) (xs := [Str.ofString "text"]) ?ho ?hcd ?hbind rfl ?hok (by omega) ?_
  case ho => k_dflt k_is
  case hcd => k_dflt k_is
  case hbind => exact fun s _ => BindsTo.of_eq rfl
  case hok => decide +kernel
  intro c' hr' own' hz'
  change ExL _ c' _ _ _ _
  w_strict walk
  refine WhE.of 6 ?_
  w_strict walk
  exact RetK.of (h _ _ _) (by exact Sel.refl)
end
local macro_rules | `(tactic| walk_at "CaV ref") => `(tactic| first | (refine' span_0 ?hr ?_; (case hr => omega)) | (refine' span_1 ?hr ?_; (case hr => omega); intro _ _ _) | (refine' span_2 ?hr ?_; (case hr => omega); intro _ _ _) | (refine' span_3 ?hr ?_; (case hr => omega); intro _ _ _) | (refine' span_4 ?hr ?_; (case hr => omega); intro _ _ _) | (refine' span_g ?hx ?hr ?_; (case hx => first | assumption | decide +kernel); (case hr => omega)))
section
variable {w : World} {sc : Scope} {c : Cx prg w (Mine.heap w.params) sc} {l : Loc} {n : Led} {X : Exc}
theorem numof_1 {Q : Value → Loc → Led → Prop} {t : Tok} (hr : 1 ≤ c.room) (h : ∀ t, Q (.int (7) t) l n) : CaV (.ref 137) [.str ⟨#[55]⟩ t] c l n Q X := by
  refine' W.callDef (binds := [(Str.ofString "text", .str ⟨#[55]⟩ t)]) (xs := [Str.ofString "text"]) ?ho ?hcd ?hbind rfl ?hok (by omega) ?_
  case ho => k_dflt k_is
  case hcd => k_dflt k_is
  case hbind => exact fun s _ => BindsTo.of_eq rfl
  case hok => decide +kernel
  intro c' hr' own' hz'
  change ExL _ c' _ _ _ _
  w_strict walk
  refine FoE.of 6 ?_
  w_strict walk
  exact RetK.of (h _) (by walk_at "k_sel")
theorem numof_2 {Q : Value → Loc → Led → Prop} {t : Tok} (hr : 1 ≤ c.room) (h : ∀ t, Q (.int (-12) t) l n) : CaV (.ref 137) [.str ⟨#[45, 49, 50]⟩ t] c l n Q X := by
  refine' W.callDef (binds := [(Str.ofString "text", .str ⟨#[45, 49, 50]⟩ t)]) (xs := [Str.ofString "text"]) ?ho ?hcd ?hbind rfl ?hok (by omega) ?_
  case ho => k_dflt k_is
  case hcd => k_dflt k_is
  case hbind => exact fun s _ => BindsTo.of_eq rfl
  case hok => decide +kernel
  intro c' hr' own' hz'
  change ExL _ c' _ _ _ _
  w_strict walk
  refine FoE.of 6 ?_
  w_strict walk
  exact RetK.of (h _) (by walk_at "k_sel")
theorem numof_3 {Q : Value → Loc → Led → Prop} {t : Tok} (hr : 1 ≤ c.room) (h : ∀ t, Q (.int (9) t) l n) : CaV (.ref 137) [.str ⟨#[57]⟩ t] c l n Q X := by
  refine' W.callDef (binds := [(Str.ofString "text", .str ⟨#[57]⟩ t)]) (xs := [Str.ofString "text"]) ?ho ?hcd ?hbind rfl ?hok (by omega) ?_
  case ho => k_dflt k_is
  case hcd => k_dflt k_is
  case hbind => exact fun s _ => BindsTo.of_eq rfl
  case hok => decide +kernel
  intro c' hr' own' hz'
  change ExL _ c' _ _ _ _
  w_strict walk
  refine FoE.of 6 ?_
  w_strict walk
  exact RetK.of (h _) (by walk_at "k_sel")
theorem numof_4 {Q : Value → Loc → Led → Prop} {t : Tok} (hr : 1 ≤ c.room) (h : ∀ t, Q (.int (1) t) l n) : CaV (.ref 137) [.str ⟨#[49]⟩ t] c l n Q X := by
  refine' W.callDef (binds := [(Str.ofString "text", .str ⟨#[49]⟩ t)]) (xs := [Str.ofString "text"]) ?ho ?hcd ?hbind rfl ?hok (by omega) ?_
  case ho => k_dflt k_is
  case hcd => k_dflt k_is
  case hbind => exact fun s _ => BindsTo.of_eq rfl
  case hok => decide +kernel
  intro c' hr' own' hz'
  change ExL _ c' _ _ _ _
  w_strict walk
  refine FoE.of 6 ?_
  w_strict walk
  exact RetK.of (h _) (by walk_at "k_sel")
end
local macro_rules | `(tactic| walk_at "CaV ref") => `(tactic| first | ((first | refine' numof_1 ?hr ?_ | refine' numof_2 ?hr ?_ | refine' numof_3 ?hr ?_ | refine' numof_4 ?hr ?_); (case hr => omega); intro _))
section
variable {w : World} {sc : Scope} {c : Cx prg w (Mine.heap w.params) sc} {l : Loc} {n : Led} {X : Exc}
end
-- part C4
section
variable {w : World} {sc : Scope} {c : Cx prg w (Mine.heap w.params) sc} {l : Loc} {n : Led} {X : Exc}
theorem as_integer_ok {Q : Value → Loc → Led → Prop} {v : Value} (hv : Okv v) (hne : v ≠ .none) (hr : 4 ≤ c.room) (h : ∀ t, Q (.int (num v) t) l n) : CaV (.ref 144) [v] c l n Q X := by
  cases hv with
  | none => exact absurd rfl hne
  | @int i t h1 h2 =>
    refine' W.callDef (binds := [(Str.ofString "v", .int i t)]) (xs := [Str.ofString "v"]) ?ho ?hcd ?hbind rfl ?hok (by omega) ?_
    case ho => k_dflt k_is
    case hcd => k_dflt k_is
    case hbind => exact fun s _ => BindsTo.of_eq rfl
    case hok => decide +kernel
    intro c' hr' own' hz'
    change ExL _ c' _ _ _ _
    w_strict walk
    exact RetK.of (h _) Sel.refl
  | @str x t hx =>
    refine' W.callDef (binds := [(Str.ofString "v", .str x t)]) (xs := [Str.ofString "v"]) ?ho ?hcd ?hbind rfl ?hok (by omega) ?_
    case ho => k_dflt k_is
    case hcd => k_dflt k_is
    case hbind => exact fun s _ => BindsTo.of_eq rfl
    case hok => decide +kernel
    intro c' hr' own' hz'
    change ExL _ c' _ _ _ _
    rcases texts_split x hx with rfl | hl | rfl | rfl | rfl
    all_goals (w_strict walk)
    all_goals exact RetK.int (by first | exact (ltr_num _ (by assumption)).symm | (show _ = numS _; decide +kernel) | (show _ = numB _; decide +kernel)) (h _) (by walk_at "k_sel")
  | @bytes x t hx =>
    refine' W.callDef (binds := [(Str.ofString "v", .bytes x.toArray t)]) (xs := [Str.ofString "v"]) ?ho ?hcd ?hbind rfl ?hok (by omega) ?_
    case ho => k_dflt k_is
    case hcd => k_dflt k_is
    case hbind => exact fun s _ => BindsTo.of_eq rfl
    case hok => decide +kernel
    intro c' hr' own' hz'
    change ExL _ c' _ _ _ _
    simp only [blobs, List.mem_cons, List.not_mem_nil, or_false] at hx
    rcases hx with rfl | rfl | rfl | rfl
    all_goals (w_strict walk)
    all_goals exact RetK.int (by first | (show _ = numS _; decide +kernel) | (show _ = numB _; decide +kernel)) (h _) (by walk_at "k_sel")
theorem as_text_str {Q : Value → Loc → Led → Prop} {x : Str} {t : Tok} (hr : 1 ≤ c.room) (h : Q (.str x t) l n) : CaV (.ref 151) [.str x t] c l n Q X := by
  refine' W.callDef (binds := [(Str.ofString "v", .str x t)]) (xs := [Str.ofString "v"]) ?ho ?hcd ?hbind rfl ?hok (by omega) ?_
  case ho => k_dflt k_is
  case hcd => k_dflt k_is
  case hbind => exact fun s _ => BindsTo.of_eq rfl
  case hok => decide +kernel
  intro c' hr' own' hz'
  change ExL _ c' _ _ _ _
  w_strict walk
  exact RetK.of h Sel.refl
theorem as_text_int {Q : Value → Loc → Led → Prop} {i : Int} {t : Tok} (hr : 1 ≤ c.room) (hi : i.natAbs.log2 < 1920) (h : ∀ t, Q (.str (Str.ofString (toString i)) t) l n) : CaV (.ref 151) [.int i t] c l n Q X := by
  refine' W.callDef (binds := [(Str.ofString "v", .int i t)]) (xs := [Str.ofString "v"]) ?ho ?hcd ?hbind rfl ?hok (by omega) ?_
  case ho => k_dflt k_is
  case hcd => k_dflt k_is
  case hbind => exact fun s _ => BindsTo.of_eq rfl
  case hok => decide +kernel
  intro c' hr' own' hz'
  change ExL _ c' _ _ _ _
  w_strict walk
  refine CaV.str_i hi fun k => ?_
  w_strict walk
  exact RetK.of (h _) Sel.refl
end
-- part NtL
section
open PySem.AutoSeq1 (wpAny_loadPart')
open PySem.MeetsSeq PySem.MeetsSeq3 PySem.SeqAt
theorem ints_at : ∀ {vs : List Value} {ns : List Int}, IntsAre vs ns → ∀ {i : Nat} {n : Int}, ns[i]? = some n → ∃ t, vs[i]? = some (.int n t)
  | _, _, .cons m t _, 0, n, e => by simp at e; subst e; exact ⟨t, rfl⟩
  | _, _, .cons _ _ h, i + 1, n, e => by simpa using ints_at h (by simpa using e)
theorem lt_loop (l b : Addr) (items items2 : Array Value) (n n2 : Nat) (dd dd2 : Option Addr) (sl sl2 : Array (Option Value)) (ns ms : List Int) (h1 : IntsAre items.toList ns) (h2 : IntsAre items2.toList ms) (k : Nat) :
    ∀ i : Nat, ns.length - i = k → i ≤ ns.length → i ≤ ms.length → Meets (Builtin.«list.__eq__.loop» ⟨[.ref l, .ref b, rawInt i, rawInt 0], []⟩)
      (fun _ R s => s.heap.get? l = some { cls := .type "list", dict := dd, data := .seq items n, slots := sl } ∧ s.heap.get? b = some { cls := .type "list", dict := dd2, data := .seq items2 n2, slots := sl2 } ∧
        R (.ok (.ret (.bool (decide (ns.drop i < ms.drop i))))) s) := by
  have z1 : items.size = ns.length := by rw [← h1.length]; simp
  have z2 : items2.size = ms.length := by rw [← h2.length]; simp
  induction k with
  | zero =>
    intro i hk hi1 hi2 prog w A R s h
    obtain ⟨hp, g, d, tk, os⟩ := s; obtain ⟨hl, hb, h⟩ := h
    wp_walk using wpAny_loadPart' hl, wpAny_loadPart' hb
    have e1 : items[((i : Nat) : Int).toNat]? = none := by simp; omega
    have hd : ns.drop i = [] := by simp; omega
    rw [e1]
    wp_walk using wpAny_loadPart' hl, wpAny_loadPart' hb
    show R (.ok (.ret (.bool (decide (items.size < items2.size))))) _
    rw [hd] at h
    have : decide (([] : List Int) < ms.drop i) = decide (items.size < items2.size) := by
      have hi : i = ns.length := by omega
      rw [z1, z2, ← hi]
      apply decide_eq_decide.mpr
      constructor
      · intro q
        rcases Nat.lt_or_ge i ms.length with r | r
        · exact r
        · rw [List.drop_of_length_le r] at q; exact absurd q (List.lt_irrefl _)
      · intro q
        rw [List.drop_eq_getElem_cons q]
        exact List.nil_lt_cons _ _
    rw [this] at h
    exact h
  | succ k ih =>
    intro i hk hi1 hi2 prog w A R s h
    obtain ⟨hp, g, d, tk, os⟩ := s; obtain ⟨hl, hb, h⟩ := h
    wp_walk using wpAny_loadPart' hl, wpAny_loadPart' hb
    have hlt : i < ns.length := by omega
    obtain ⟨t, e1⟩ := ints_at h1 (List.getElem?_eq_getElem hlt)
    have e1 : items[((i : Nat) : Int).toNat]? = some (.int ns[i] t) := by simpa using e1
    rw [e1]
    have hc : ((i : Int) + 1) = ((i + 1 : Nat) : Int) := by push_cast; rfl
    rcases Nat.lt_or_ge i ms.length with hlt2 | hge
    · obtain ⟨u, e2⟩ := ints_at h2 (List.getElem?_eq_getElem hlt2)
      have e2 : items2[((i : Nat) : Int).toNat]? = some (.int ms[i] u) := by simpa using e2
      rw [e2]
      rw [List.drop_eq_getElem_cons hlt, List.drop_eq_getElem_cons hlt2] at h
      refine wpAny_bind (EqGives.int ns[i] ms[i] t u prog w _ _ _ _ ?_)
      cases hb' : (ns[i] == ms[i]) with
      | true =>
        have q : ns[i] = ms[i] := by simpa using hb'
        wp_walk
        rw [hc]
        exact ⟨plainId_quiet plain_eq_loop _, codeAny_builtin entry_eq_loop (by
          rw [Around.under_plainId plain_eq_loop _]
          refine ih (i + 1) (by omega) (by omega) (by omega) prog w A R _ ⟨hl, hb, ?_⟩
          rw [q] at h
          have : decide (ms[i] :: ns.drop (i + 1) < ms[i] :: ms.drop (i + 1)) = decide (ns.drop (i + 1) < ms.drop (i + 1)) := by
            apply decide_eq_decide.mpr
            exact List.cons_lt_cons_self
          rw [this] at h
          exact h)⟩
      | false =>
        have q : ns[i] ≠ ms[i] := by simpa using hb'
        wp_walk using wpAny_loadPart' hl, wpAny_loadPart' hb
        rw [e1, e2]
        have : decide (ns[i] :: ns.drop (i + 1) < ms[i] :: ms.drop (i + 1)) = decide (ns[i] < ms[i]) := by
          apply decide_eq_decide.mpr
          rw [List.cons_lt_cons_iff]
          exact ⟨fun r => r.elim id fun r => absurd r.1 q, .inl⟩
        rw [this] at h
        have hcmp : ∀ (A' : Around) (Q' : Value → Shared → Prop) (E' : Value → Shared → Prop), Q' (.bool (decide (ns[i] < ms[i]))) ⟨hp, g, d, tk, os⟩ → wpAny (model prog w) A' (richCompare .Lt (.int ns[i] t) (.int ms[i] u)) Q' E' ⟨hp, g, d, tk, os⟩ := fun A' Q' E' hq => by
          exact PySem.P.lt_int hq
        refine wpAny_bind (hcmp _ _ _ ?_)
        exact wpAny_pure h
    · have e2 : items2[((i : Nat) : Int).toNat]? = none := by simp; omega
      rw [e2]
      wp_walk using wpAny_loadPart' hl, wpAny_loadPart' hb
      show R (.ok (.ret (.bool (decide (items.size < items2.size))))) _
      have : decide (ns.drop i < ms.drop i) = decide (items.size < items2.size) := by
        rw [List.drop_of_length_le hge, z1, z2]
        apply decide_eq_decide.mpr
        constructor
        · intro q; exact absurd q (List.not_lt_nil _)
        · intro q; omega
      rw [this] at h
      exact h
theorem list_lt (l b : Addr) (items items2 : Array Value) (n n2 : Nat) (dd dd2 : Option Addr) (sl sl2 : Array (Option Value)) (ns ms : List Int) (h1 : IntsAre items.toList ns) (h2 : IntsAre items2.toList ms) :
    Meets (Builtin.«list.__lt__» ⟨[.ref l, .ref b], []⟩)
      (fun _ R s => s.heap.get? l = some { cls := .type "list", dict := dd, data := .seq items n, slots := sl } ∧ s.heap.get? b = some { cls := .type "list", dict := dd2, data := .seq items2 n2, slots := sl2 } ∧
        R (.ok (.ret (.bool (decide (ns < ms))))) s) := by
  intro prog w A R s h
  obtain ⟨hp, g, d, tk, os⟩ := s; obtain ⟨hl, hb, h⟩ := h
  have f3 := AutoSeq1.sub_list_list
  wp_walk using wpAny_loadPart' hl, wpAny_loadPart' hb
  exact ⟨plainId_quiet plain_eq_loop _, codeAny_builtin entry_eq_loop (by
    rw [Around.under_plainId plain_eq_loop _]
    exact lt_loop l b items items2 n n2 dd dd2 sl sl2 ns ms h1 h2 _ 0 rfl (Nat.zero_le _) (Nat.zero_le _) prog w A R _ ⟨hl, hb, by simpa using h⟩)⟩
section
variable {pr : Program} {w : World} {K : Frag} {sc : Scope} {c : Cx pr w K sc} {l : Loc} {n : Led} {X : Exc}
theorem Cx.un (c : Cx pr w K sc) : c.A.units < cLine := by have := c.hu; rw [cLine_is]; omega
section
variable {Q : Value → Loc → Led → Prop}
theorem CmO.lt_ll {d e : Addr} {xs ys : List Value} {k j : Nat} {ns ms : List Int} (hd : Mm (d, listOf xs.toArray k) n) (he : Mm (e, listOf ys.toArray j) n) (h1 : IntsAre xs ns) (h2 : IntsAre ys ms)
    (h : Q (.bool (decide (ns < ms))) l n) : CmO .Lt (.ref d) (.ref e) c l n Q X := by
  intro s₀ s m z
  have hl := z.isLL hd
  have hb := z.isLL he
  show wpAny _ _ (richCompare .Lt _ _) _ _ _
  exact richCompare_meets_room (op := .Lt) ⟨_, hl, rfl⟩ ⟨_, hb, rfl⟩ F.slot_list_lt F.entry_list_lt (F.args_list_lt_2 _ _) (list_lt d e xs.toArray ys.toArray k j _ _ _ _ ns ms (by simpa using h1) (by simpa using h2))
    ⟨hl, hb, (fun x => nomatch x), z.end h⟩ c.un
/-- two lists of one item each that are the same data -/
theorem CmO.ne_one {d e : Addr} {v u : Value} {k j : Nat} (hd : Mm (d, listOf #[v] k) n) (he : Mm (e, listOf #[u] j) n) (hv : ∀ A s, EqAt A s v u true) (h : Q (.bool false) l n) : CmO .NotEq (.ref d) (.ref e) c l n Q X := by
  intro s₀ s m z
  show wpAny _ _ (richCompare .NotEq _ _) _ _ _
  refine RcNeAt.lists (e := fun _ => true) (z.isL hd) (z.isL he) rfl c.un (fun j h1 h2 => ?_) pr w _ _ (z.end h)
  have : j = 0 := by simp at h1; exact h1
  subst this; exact hv _ _
theorem CmO.ne_nil {d e : Addr} {k j : Nat} (hd : Mm (d, listOf #[] k) n) (he : Mm (e, listOf #[] j) n) (h : Q (.bool false) l n) : CmO .NotEq (.ref d) (.ref e) c l n Q X := by
  intro s₀ s m z
  show wpAny _ _ (richCompare .NotEq _ _) _ _ _
  refine RcNeAt.lists (e := fun _ => true) (z.isL hd) (z.isL he) rfl c.un (fun j h1 h2 => ?_) pr w _ _ (z.end h)
  simp at h1
theorem CmO.ne_len {d e : Addr} {xs ys : Array Value} {k j : Nat} (hd : Mm (d, listOf xs k) n) (he : Mm (e, listOf ys j) n) (hs : (xs.size != ys.size) = true) (h : Q (.bool true) l n) : CmO .NotEq (.ref d) (.ref e) c l n Q X := by
  intro s₀ s m z
  show wpAny _ _ (richCompare .NotEq _ _) _ _ _
  exact RcNeAt.lists_lengths (z.isL hd) (z.isL he) hs c.un pr w _ _ (z.end h)
theorem CmO.eq_one {d e : Addr} {v u : Value} {k j : Nat} (hd : Mm (d, listOf #[v] k) n) (he : Mm (e, listOf #[u] j) n) (hv : ∀ A s, EqAt A s v u true) (h : Q (.bool true) l n) : CmO .Eq (.ref d) (.ref e) c l n Q X := by
  intro s₀ s m z
  show wpAny _ _ (richCompare .Eq _ _) _ _ _
  refine RcAt.lists (e := fun _ => true) (z.isL hd) (z.isL he) rfl c.un (fun j h1 h2 => ?_) pr w _ _ (z.end h)
  have : j = 0 := by simp at h1; exact h1
  subst this; exact hv _ _
end
theorem isL_base {d : Addr} {its : Array Value} (hb : c.h₀.IsList d its) {s₀ s : Shared} {m : St} (z : At c s₀ s m l n) : s.heap.IsList d its := let ⟨o, ho, r⟩ := hb; ⟨o, z.F.keep _ _ ho, r⟩
/-- the script's own list -/
theorem CaV.len_base {Q : Value → Loc → Led → Prop} {d : Addr} {its : Array Value} (hb : c.h₀.IsList d its) (hz : its.size ≤ sizeLine) (h : ∀ k, Q (.int its.size k) l n) : CaV (.builtin "len") [.ref d] c l n Q X := by
  intro s₀ s m z; with_reducible exact PySem.Calls.call_len_list (isL_base hb z) (by rw [sizeLine_eq] at hz; omega) ((z.toks _).end (h _))
theorem SbT.base {Q : Value → Loc → Led → Prop} {d : Addr} {its : Array Value} {a : Int} {t : Tok} {v : Value} {value slice : Expr} (hb : c.h₀.IsList d its) (h0 : 0 ≤ a) (h1 : a < 2 ^ 63) (hv : its[a.toNat]? = some v) (h : Q v l n)
    (hs : subscripted slice false (.ref d) (.int a t) = operate [.ref d, .int a t] (getItem (.ref d) (.int a t)) := by rfl) (ht : ∀ r, letTemporaryGo value (.ref d) r = pure () := by intro _; rfl) : SbT (.ref d) (.int a t) value slice c l n Q X := by
  intro s₀ s m z
  with_reducible exact item_list (isL_base hb z) h0 h1 hv (z.end h) hs ht
/-- a name that a comprehension within takes along -/
theorem StN.cell {x : Str} {v : Value} {v₀ : Option Value} {b : Addr} {o : Obj} {C : Obj → Led} {Q : Unit → Loc → Led → Prop} (hk : sc.names.lookup x = some .cell) (hc : c.cells.lookup x = some b) (hp : Put n b o C) (ho : o.data = .cell v₀)
    (h : ∀ o', o'.data = .cell (some v) → Q () l (C o')) : StN x v c l n Q X := by
  intro s₀ s m z
  refine wpAny_storeName_cell (env := c.env) c.hk hk hc ⟨o, (z.N _ hp.mem).1, ho⟩ fun h' ⟨o', ho', hd'⟩ hs => ?_
  exact (z.change (t := s.toks) hp hs.extBut ho').end (h o' hd')
def okCells (scope : Scope) (xs : List Str) : Bool := xs.all (fun x => scope.names.lookup x == some .local || scope.names.lookup x == some .cell) && !scope.isCoroutine && !scope.isGenerator && scope.kind == .function
/-- a def's call, one of its names a cell -/
theorem W.callCell {name qual : Str} {params : Arguments} {body : List Stmt} {scope : Scope} {dV kV doc pm cdv ct oc : Value} {an od : Option Addr} {osl : Array (Option Value)} {f : Addr} {args : List Value} {binds : List (Str × Value)} {y : Str} {v₀ : Option Value} {l' : Loc}
    {Q : Value → Loc → Led → Prop}
    (ho : K.lookup f = some ⟨oc, od, .func (fnOf name qual params body scope dV kV doc pm an cdv ct), osl⟩) (hcd : codeIn K cdv qual = true)
    (hbind : bindArgs (fnOf name qual params body scope dV kV doc pm an cdv ct) ⟨args, []⟩ = Pure.pure binds) (hok : okCells scope (binds.map (·.1)) = true) (hcs : ∀ k, cellsFrom k scope.names [] = [(y, k)])
    (hyk : ∀ x ∈ binds, scope.names.lookup x.1 = some .cell → x.1 = y) (hL : ∀ p, Mm p l' → bindL (fun x => scope.names.lookup x) binds (fun _ => none) p.1 = some p.2) (hC : bindC (fun x => scope.names.lookup x) binds (fun _ => none) y = v₀) (hroom : 1 ≤ c.room)
    (h : ∀ (c' : Cx pr w K scope) b o, c'.room + 1 = c.room → c'.cells = [(y, b)] → c'.h₀ = c.h₀ → o.data = .cell v₀ → W (execs body c'.env) c' l' ((b, o) :: n) (RetK Q l) (fun _ _ _ => False)) :
    W (call (.ref f) args) c l n Q X := by
  intro s₀ s m z
  simp only [okCells, Bool.and_eq_true, List.all_eq_true, Bool.or_eq_true, beq_iff_eq, Bool.not_eq_true'] at hok
  obtain ⟨⟨⟨hk1, hco⟩, hgen⟩, hk⟩ := hok
  have hdep := c.hd
  have hun := c.hu
  refine wpAny_call (codeAny_call_cells (fd := fnOf name qual params body scope dV kV doc pm an cdv ct) (body := body) (binds := binds) (by simp only [recursionLimit]; omega) (z.inK _ _ ho) rfl
    (c.T.nolimit.keeps z.F.keep) (codeRec_of z.inK hcd) rfl hbind rfl (fun x hx => ?_) (fun s₁ ic => ?_) hco hgen hk)
  · rcases hk1 x.1 (List.mem_map.mpr ⟨x, hx, rfl⟩) with q | q
    · exact .inl q
    · refine .inr ⟨q, ?_⟩
      show ((cellsFrom (s.heap.objs.size + 1) scope.names []).lookup x.1).isSome = true
      rw [hcs, hyk x hx q]; simp
  · let L' := s.heap.objs.size
    have ecs : (callEnvC (fnOf name qual params body scope dV kV doc pm an cdv ct) s.heap.objs.size f).cells = [(y, L' + 1)] := hcs _
    obtain ⟨o, ho', hod⟩ := ic.cell y (L' + 1) (by rw [ecs]; simp)
    obtain ⟨h₁, tk₁, rfl⟩ := ic.toInCall.same
    have hk₁ : ∀ b o, s.heap.get? b = some o → h₁.get? b = some o := ic.toInCall.keep
    obtain ⟨oL, hoL, N', U', S'⟩ := z.inner (L' := L') (Nat.le_refl _) hk₁
    have hns : h₁.Ns L' _ := ic.toInCall.ns
    have F' : Fr c.h₀ L' h₁ (bindL (fun x => scope.names.lookup x) binds fun _ => none) := ⟨hns, fun b o e => hk₁ b o (z.F.keep b o e), Nat.le_trans z.F.above (Nat.le_of_lt z.F.ns.lt)⟩
    let env' := callEnvC (fnOf name qual params body scope dV kV doc pm an cdv ct) L' f
    let c' : Cx pr w K scope :=
      { A := c.A.deeper env', frs := env' :: c.frs, outs := (c.L, oL) :: m.u, h₀ := c.h₀, L := L', cells := [(y, L' + 1)], qual := qual ++ ".<locals>.", func := some f, code := cdv, frame := some L', p := c.p, loose := c.loose, mean := c.mean, mg := c.mg, mb := c.mb,
        room := c.room - 1, hk := hk, hA := Around.frames_deeper c.hA, hh := c.hh, hd := (by show c.A.depth + 1 + (c.room - 1) ≤ 900; omega), hu := (by show c.A.units + 3 + 30 * (c.room - 1) ≤ 9000; omega),
        hfr := by
          intro e he
          rcases List.mem_cons.mp he with rfl | he
          · exact ⟨by show scope.kind ≠ .module; rw [hk]; decide, L', rfl, .inl rfl⟩
          · obtain ⟨h1, a, h2, h3⟩ := c.hfr e he
            refine ⟨h1, a, h2, .inr ?_⟩
            rw [List.map_cons]
            rcases h3 with rfl | h3
            · exact .head _
            · exact .tail _ (z.O.S.keys ▸ h3)
        X := c.X, T := c.T }
    have envEq : c'.env = env' := by
      show ({ env' with cells := [(y, L' + 1)] } : Env) = env'
      rw [← ecs]
    have hb0 : c.h₀.get? (L' + 1) = none := by
      cases q : c.h₀.get? (L' + 1) with
      | none => rfl
      | some o => exact absurd (Heap.lt_size (z.F.keep _ _ q)) (Nat.not_lt.mpr (Nat.le_succ _))
    have hlt : ∀ p ∈ n ++ (c.L, oL) :: m.u, p.1 < L' := fun p hp => by
      rcases List.mem_append.mp hp with q | q
      · exact Heap.lt_size (z.N p q).1
      · rcases List.mem_cons.mp q with rfl | q
        · exact Heap.lt_size hoL
        · exact Heap.lt_size (z.M p (List.mem_append_right _ q)).1
    have z' : At c' s₀ { s with heap := h₁, toks := tk₁ } ⟨bindL (fun x => scope.names.lookup x) binds fun _ => none, (c.L, oL) :: m.u⟩ l' ((L' + 1, o) :: n) := by
      refine ⟨z.R.with, F', fun x v e => hL _ e, ⟨fun p hp => ?_, ?_, S'⟩⟩
      · rw [List.cons_append] at hp
        rcases List.mem_cons.mp hp with rfl | hp
        · exact ⟨ho', Nat.ne_of_gt (Nat.lt_succ_self _), hb0⟩
        · exact N' p hp
      · rw [List.cons_append, List.map_cons]
        refine List.nodup_cons.mpr ⟨fun hm => ?_, U'⟩
        obtain ⟨p, hp, e⟩ := List.mem_map.mp hm
        exact absurd (hlt p hp) (by rw [e]; exact Nat.not_lt.mpr (Nat.le_succ _))
    have hod' : o.data = .cell v₀ := by rw [hod]; exact congrArg _ hC
    have hh := h c' (L' + 1) o (by show c.room - 1 + 1 = c.room; omega) rfl rfl hod'
    rw [envEq] at hh
    refine wpAny_mono (hh s₀ _ _ z') (fun fl s' ⟨m', l', n', y', n'', hs, q⟩ => ?_) (fun e s' q => q.elim)
    have y' := y'.drop (fun _ h => h) hs
    obtain ⟨u, y'⟩ := At.outer (c := c) (c' := c') z rfl rfl hoL y'.R y'.O.N y'.O.U y'.O.S y'.F.keep
    have fin : End c s₀ (Q (retOf fl)) s' := ⟨_, l, n'', y', q⟩
    cases fl <;> exact fin
end
end
-- part NtM
theorem Mm.app_r {α : Type} {a : α} {l r : List α} (h : Mm a r) : Mm a (l ++ r) := Mm.of (List.mem_append_right _ h.mem)
theorem Mm.app_l {α : Type} {a : α} {l r : List α} (h : Mm a l) : Mm a (l ++ r) := Mm.of (List.mem_append_left _ h.mem)
theorem Put.app_r {a : Addr} {o : Obj} {C : Obj → Led} {n : Led} (h : Put n a o C) : ∀ (e : Led), Put (e ++ n) a o (fun o' => e ++ C o')
  | [] => h
  | _ :: e => (Put.app_r h e).tail
/-- locals forgotten -/
inductive LS : Loc → Loc → Prop
  | nil {l : Loc} : LS [] l
  | cons {p : Str × Value} {l' l : Loc} : Mm p l → LS l' l → LS (p :: l') l
theorem LS.sub {l' l : Loc} (h : LS l' l) : ∀ p, Mm p l' → Mm p l := by
  induction h with
  | nil => intro p hp; cases hp
  | cons h _ ih =>
    intro p hp
    cases hp with
    | head => exact h
    | tail hp => exact ih p hp
theorem Sel.app_l {e n : Led} : Sel n (e ++ n) := Sel.of_sub (List.sublist_append_right _ _)
theorem Sel.keepR {e : Led} {n' n : Led} (h : Sel n' n) : Sel (n' ++ e) (n ++ e) := by
  refine ⟨fun p hp => ?_, fun u => ?_⟩
  · rcases List.mem_append.mp hp with q | q
    · exact List.mem_append_left _ (h.1 p q)
    · exact List.mem_append_right _ q
  · rw [List.map_append, List.nodup_append] at u ⊢
    refine ⟨h.2 u.1, u.2.1, fun a ha b hb => u.2.2 a ?_ b hb⟩
    obtain ⟨q, hq, e⟩ := List.mem_map.mp ha
    exact List.mem_map.mpr ⟨q, h.1 q hq, e⟩
section
variable {pr : Program} {w : World} {K : Frag} {sc : Scope} {c : Cx pr w K sc} {l : Loc} {n : Led} {X : Exc}
/-- some of what is known stands as P says -/
def Wk (P : Loc → Led → Prop) (l : Loc) (n : Led) : Prop := ∃ l' n', (∀ p, Mm p l' → Mm p l) ∧ Sel n' n ∧ P l' n'
theorem Wk.of {P : Loc → Led → Prop} {l' : Loc} {n' : Led} (hl : LS l' l) (hn : Sel n' n) (h : P l' n') : Wk P l n := ⟨l', n', hl.sub, hn, h⟩
/-- a `for` over a list, by what holds between the turns -/
theorem FoL.overList {target : Expr} {body orelse : List Stmt} {I d : Addr} {its : List Value} {k : Nat} {Q : Flow → Loc → Led → Prop} (P : List Value → Loc → Led → Prop)
    (hd : ∀ done l n, P done l n → (d, listOf its.toArray k) ∈ n)
    (turn : ∀ done v rest l n o, its = done ++ v :: rest → P done l n → AsT target v c l ((I, o) :: n) (fun _ l n => ExL body c l n (loopK (Wk fun l n => ∃ n', n = (I, o) :: n' ∧ P (done ++ [v]) l n') Q) NoX) NoX)
    (fin : ∀ l n, P its l n → ExL orelse c l n Q NoX) :
    ∀ (rest done : List Value) (l : Loc) (n : Led) (o : Obj), its = done ++ rest → LIt o d done.length → P done l n → FoL target (.ref I) body orelse c Q (rest.length + 1) l ((I, o) :: n) := by
  intro rest
  induction rest with
  | nil =>
    intro done l n o e ho h
    refine FoL.turn (NxT.list_end .head .head ho (.tail (Mm.of (hd _ _ _ h))) ?_ (nextK_none (fin l n (by rw [e, List.append_nil]; exact h))))
    rw [e]; simp
  | cons v rest ih =>
    intro done l n o e ho h
    refine FoL.turn (NxT.list_item (v := v) .head ho (.tail (Mm.of (hd _ _ _ h))) ?_ fun o' ho' => nextK_some ?_)
    · rw [e]; simp
    · refine W.mono (turn done v rest l n o' e h) (fun _ l₁ n₁ h₁ => W.mono h₁ (fun f l₂ n₂ h₂ => ?_) fun _ _ _ f => f) fun _ _ _ f => f
      have go : ∀ l₂ n₂, Wk (fun l n => ∃ n', n = (I, o') :: n' ∧ P (done ++ [v]) l n') l₂ n₂ → FoL target (.ref I) body orelse c Q (rest.length + 1) l₂ n₂ := by
        rintro l₂ n₂ ⟨l', n', hl, hn, n'', rfl, hP⟩
        have := ih (done ++ [v]) l' n'' o' (by rw [e]; simp) (by simpa using ho') hP
        exact W.weak this hl hn
      cases f with
      | next => exact go _ _ h₂
      | cont => exact go _ _ h₂
      | brk => exact h₂
      | ret v => exact h₂
theorem FoE.overList {target : Expr} {body orelse : List Stmt} {I d : Addr} {its : List Value} {k : Nat} {o : Obj} {Q : Flow → Loc → Led → Prop} (P : List Value → Loc → Led → Prop) (ho : LIt o d 0)
    (hd : ∀ done l n, P done l n → (d, listOf its.toArray k) ∈ n)
    (turn : ∀ done v rest l n o, its = done ++ v :: rest → P done l n → AsT target v c l ((I, o) :: n) (fun _ l n => ExL body c l n (loopK (Wk fun l n => ∃ n', n = (I, o) :: n' ∧ P (done ++ [v]) l n') Q) NoX) NoX)
    (fin : ∀ l n, P its l n → ExL orelse c l n Q NoX) (h0 : P [] l n) : FoE target (.ref I) body orelse c l ((I, o) :: n) Q :=
  ⟨_, FoL.overList P hd turn fin its [] l n o rfl ho h0⟩
/-- a comprehension over a list, by what holds between the turns -/
theorem CoL.overList {elt : Expr} {x : Str} {px : Pos} {ifs : List Expr} {I d D : Addr} {its : List Value} {k : Nat} {Fin : Loc → Led → Prop} (P : List Value → List Value → Led → Prop)
    (hz : its.length ≤ 1000) (hd : ∀ done outs n, P done outs n → (d, listOf its.toArray k) ∈ n)
    (turn : ∀ done v rest outs n o m, its = done ++ v :: rest → outs.length ≤ done.length → P done outs n → StN x v c [] ((D, listOf outs.toArray m) :: (I, o) :: n) (fun _ l n₁ => TsL ifs c l n₁ (brK
      (fun l n₂ => EvE elt c l n₂ (fun y _ n₃ => ∃ n', Sel ((D, listOf outs.toArray m) :: (I, o) :: n') n₃ ∧ P (done ++ [v]) (outs ++ [y]) n') NoX)
      (fun _ n₃ => ∃ n', Sel ((D, listOf outs.toArray m) :: (I, o) :: n') n₃ ∧ P (done ++ [v]) outs n')) NoX) NoX)
    (fin : ∀ l outs m n, P its outs n → Fin l ((D, listOf outs.toArray m) :: n)) :
    ∀ (rest done outs : List Value) (l : Loc) (n : Led) (o : Obj) (m : Nat), its = done ++ rest → LIt o d done.length → outs.length ≤ done.length → P done outs n → CoL elt x px ifs (.ref I) D c Fin (rest.length + 1) l ((D, listOf outs.toArray m) :: (I, o) :: n) := by
  intro rest
  induction rest with
  | nil =>
    intro done outs l n o m e ho hlen h
    refine CoL.turn (NxT.list_end (.tail .head) (.tail .head) ho (.tail (.tail (Mm.of (hd _ _ _ h)))) ?_ (nextK_none (fin _ _ _ _ (by rw [e, List.append_nil]; exact h))))
    rw [e]; simp
  | cons v rest ih =>
    intro done outs l n o m e ho hlen h
    have hlt : outs.length ≤ sizeLine := by
      have : done.length ≤ its.length := by rw [e]; simp
      rw [sizeLine_eq]; omega
    refine W.weak (l' := []) ?_ (fun _ hp => by cases hp) Sel.refl
    refine CoL.turn (NxT.list_item (v := v) (.tail .head) ho (.tail (.tail (Mm.of (hd _ _ _ h)))) ?_ fun o' ho' => nextK_some (AsT.name ?_))
    · rw [e]; simp
    · refine W.mono (turn done v rest outs n o' m e hlen h) (fun _ l₁ n₁ h₁ => W.mono h₁ (fun b l₂ n₂ h₂ => ?_) fun _ _ _ f => f) fun _ _ _ f => f
      cases b with
      | false =>
        obtain ⟨n', hn, hP⟩ := h₂
        exact W.weak (ih (done ++ [v]) outs l₂ n' o' m (by rw [e]; simp) (by simpa using ho') (by simp; omega) hP) (fun _ hp => hp) hn
      | true =>
        refine W.mono h₂ (fun y l₃ n₃ h₃ => ?_) fun _ _ _ f => f
        obtain ⟨n', hn, hP⟩ := h₃
        refine W.weak (CaV.append .head hlt ?_) (fun _ hp => hp) hn
        exact ih (done ++ [v]) (outs ++ [y]) l₃ n' o' (m + 1) (by rw [e]; simp) (by simpa using ho') (by simp; omega) hP
theorem CoE.overList {elt : Expr} {x : Str} {px : Pos} {ifs : List Expr} {I d D : Addr} {its : List Value} {k : Nat} {o : Obj} {Fin : Loc → Led → Prop} (P : List Value → List Value → Led → Prop) (ho : LIt o d 0)
    (hz : its.length ≤ 1000) (hd : ∀ done outs n, P done outs n → (d, listOf its.toArray k) ∈ n)
    (turn : ∀ done v rest outs n o m, its = done ++ v :: rest → outs.length ≤ done.length → P done outs n → StN x v c [] ((D, listOf outs.toArray m) :: (I, o) :: n) (fun _ l n₁ => TsL ifs c l n₁ (brK
      (fun l n₂ => EvE elt c l n₂ (fun y _ n₃ => ∃ n', Sel ((D, listOf outs.toArray m) :: (I, o) :: n') n₃ ∧ P (done ++ [v]) (outs ++ [y]) n') NoX)
      (fun _ n₃ => ∃ n', Sel ((D, listOf outs.toArray m) :: (I, o) :: n') n₃ ∧ P (done ++ [v]) outs n')) NoX) NoX)
    (fin : ∀ l outs m n, P its outs n → Fin l ((D, listOf outs.toArray m) :: n)) (h0 : P [] [] n) : CoE elt x px ifs (.ref I) D c l ((D, listOf #[] 0) :: (I, o) :: n) Fin :=
  ⟨_, CoL.overList P hz hd turn fin its [] [] l n o 0 rfl ho (Nat.le_refl _) h0⟩
end
local macro_rules | `(tactic| k_mem) => `(tactic| with_reducible (first | exact Mm.app_r (by assumption) | exact Mm.app_r (Mm.of (Put.mem (by assumption)))))
local macro_rules | `(tactic| walk_at "k_ls") => `(tactic| (repeat (first | exact LS.nil | (refine LS.cons (by k_mem) ?_))))
-- part NtY
inductive AllC (g : Nat → Value → Prop) : List Nat → List Value → Prop
  | nil : AllC g [] []
  | cons {a : Nat} {y : Value} {as : List Nat} {ys : List Value} : g a y → AllC g as ys → AllC g (a :: as) (y :: ys)
theorem AllC.snoc {g : Nat → Value → Prop} {as : List Nat} {ys : List Value} {a : Nat} {y : Value} (h : AllC g as ys) (hr : g a y) : AllC g (as ++ [a]) (ys ++ [y]) := by
  induction h with
  | nil => exact .cons hr .nil
  | cons h _ ih => exact .cons h ih
theorem AllC.ints {as : List Nat} {ys : List Value} (h : AllC (fun a y => ∃ t, y = .int (a : Int) t) as ys) : IntsAre ys (as.map fun c : Nat => (c : Int)) := by
  induction h with
  | nil => exact .nil
  | cons h _ ih => obtain ⟨t, rfl⟩ := h; exact .cons _ _ ih
theorem AllC.strs {f : Nat → Nat} {as : List Nat} {ys : List Value} (h : AllC (fun a y => ∃ t, y = .str ⟨#[f a]⟩ t) as ys) : StrsAre ys (as.map fun c : Nat => (⟨#[f c]⟩ : Str)) := by
  induction h with
  | nil => exact .nil
  | cons h _ ih => obtain ⟨t, rfl⟩ := h; exact .cons _ _ ih
theorem at_end {s : Str} {done : List Nat} (e : s.cps.toList = done) : s.cps[done.length]? = none := by
  rw [← e]; simp
theorem at_next {s : Str} {done rest : List Nat} {a : Nat} (e : s.cps.toList = done ++ a :: rest) : s.cps[done.length]? = some a := by
  rw [← Array.getElem?_toList, e]; simp
section
variable {pr : Program} {w : World} {K : Frag} {sc : Scope} {c : Cx pr w K sc} {l : Loc} {n : Led} {X : Exc}
theorem CoL.overStr {elt : Expr} {x : Str} {px : Pos} {I D : Addr} {s : Str} {ts : Tok} {Fin : Loc → Led → Prop} (g : Nat → Value → Prop) (hz : s.cps.toList.length ≤ 1000) (hk : sc.names.lookup x = some .local)
    (helt : ∀ (a : Nat) (u : Tok) (n₂ : Led) (Q : Value → Loc → Led → Prop), a ∈ s.cps.toList → (∀ y, g a y → Q y [(x, .str ⟨#[a]⟩ u)] n₂) → EvE elt c [(x, .str ⟨#[a]⟩ u)] n₂ Q NoX)
    (fin : ∀ l outs m, AllC g s.cps.toList outs → Fin l ((D, listOf outs.toArray m) :: n)) :
    ∀ (rest done : List Nat) (outs : List Value) (l : Loc) (o : Obj) (m : Nat), s.cps.toList = done ++ rest → SIt o s ts done.length → outs.length ≤ done.length → AllC g done outs → CoL elt x px [] (.ref I) D c Fin (rest.length + 1) l ((D, listOf outs.toArray m) :: (I, o) :: n) := by
  intro rest
  induction rest with
  | nil =>
    intro done outs l o m e ho hlen h
    rw [List.append_nil] at e
    exact CoL.turn (NxT.str_end (.tail .head) (.tail .head) ho (at_end e) (nextK_none (fin _ _ _ (by rw [e]; exact h))))
  | cons a rest ih =>
    intro done outs l o m e ho hlen h
    have hlt : outs.length ≤ sizeLine := by
      have : done.length ≤ s.cps.toList.length := by rw [e]; simp
      rw [sizeLine_eq]; omega
    refine W.weak (l' := []) ?_ (fun _ hp => by cases hp) Sel.refl
    refine CoL.turn (NxT.str_item (.tail .head) ho (at_next e) fun o' u ho' => nextK_some (AsT.name (StN.local hk .nil (TsL.nil (brK_true (helt a u _ _ (by rw [e]; simp) fun y hy => CaV.append .head hlt ?_))))))
    exact ih (done ++ [a]) (outs ++ [y]) _ o' (m + 1) (by rw [e]; simp) (by simpa using ho') (by simp; omega) (h.snoc hy)
theorem CoE.overStr {elt : Expr} {x : Str} {px : Pos} {I D : Addr} {s : Str} {ts : Tok} {o : Obj} {Fin : Loc → Led → Prop} (g : Nat → Value → Prop) (ho : SIt o s ts 0) (hz : s.cps.toList.length ≤ 1000) (hk : sc.names.lookup x = some .local)
    (helt : ∀ (a : Nat) (u : Tok) (n₂ : Led) (Q : Value → Loc → Led → Prop), a ∈ s.cps.toList → (∀ y, g a y → Q y [(x, .str ⟨#[a]⟩ u)] n₂) → EvE elt c [(x, .str ⟨#[a]⟩ u)] n₂ Q NoX)
    (fin : ∀ l outs m, AllC g s.cps.toList outs → Fin l ((D, listOf outs.toArray m) :: n)) : CoE elt x px [] (.ref I) D c l ((D, listOf #[] 0) :: (I, o) :: n) Fin :=
  ⟨_, CoL.overStr g hz hk helt fin s.cps.toList [] [] l o 0 rfl ho (Nat.le_refl _) .nil⟩
theorem FoL.overStr {target : Expr} {body orelse : List Stmt} {I : Addr} {s : Str} {ts : Tok} {Q : Flow → Loc → Led → Prop} (P : List Nat → Loc → Led → Prop)
    (turn : ∀ done a rest l n o u, s.cps.toList = done ++ a :: rest → P done l n → AsT target (.str ⟨#[a]⟩ u) c l ((I, o) :: n) (fun _ l n => ExL body c l n (loopK (Wk fun l n => ∃ n', n = (I, o) :: n' ∧ P (done ++ [a]) l n') Q) NoX) NoX)
    (fin : ∀ l n, P s.cps.toList l n → ExL orelse c l n Q NoX) :
    ∀ (rest done : List Nat) (l : Loc) (n : Led) (o : Obj), s.cps.toList = done ++ rest → SIt o s ts done.length → P done l n → FoL target (.ref I) body orelse c Q (rest.length + 1) l ((I, o) :: n) := by
  intro rest
  induction rest with
  | nil =>
    intro done l n o e ho h
    rw [List.append_nil] at e
    exact FoL.turn (NxT.str_end .head .head ho (at_end e) (nextK_none (fin _ _ (by rw [e]; exact h))))
  | cons a rest ih =>
    intro done l n o e ho h
    refine FoL.turn (NxT.str_item .head ho (at_next e) fun o' u ho' => nextK_some ?_)
    refine W.mono (turn done a rest l n o' u e h) (fun _ l₁ n₁ h₁ => W.mono h₁ (fun f l₂ n₂ h₂ => ?_) fun _ _ _ f => f) fun _ _ _ f => f
    have go : ∀ l₂ n₂, Wk (fun l n => ∃ n', n = (I, o') :: n' ∧ P (done ++ [a]) l n') l₂ n₂ → FoL target (.ref I) body orelse c Q (rest.length + 1) l₂ n₂ := by
      rintro l₂ n₂ ⟨l', n', hl, hn, n'', rfl, hP⟩
      exact W.weak (ih (done ++ [a]) l' n'' o' (by rw [e]; simp) (by simpa using ho') hP) hl hn
    cases f with
    | next => exact go _ _ h₂
    | cont => exact go _ _ h₂
    | brk => exact h₂
    | ret v => exact h₂
theorem FoE.overStr {target : Expr} {body orelse : List Stmt} {I : Addr} {s : Str} {ts : Tok} {o : Obj} {Q : Flow → Loc → Led → Prop} (P : List Nat → Loc → Led → Prop) (ho : SIt o s ts 0)
    (turn : ∀ done a rest l n o u, s.cps.toList = done ++ a :: rest → P done l n → AsT target (.str ⟨#[a]⟩ u) c l ((I, o) :: n) (fun _ l n => ExL body c l n (loopK (Wk fun l n => ∃ n', n = (I, o) :: n' ∧ P (done ++ [a]) l n') Q) NoX) NoX)
    (fin : ∀ l n, P s.cps.toList l n → ExL orelse c l n Q NoX) (h0 : P [] l n) : FoE target (.ref I) body orelse c l ((I, o) :: n) Q :=
  ⟨_, FoL.overStr P turn fin s.cps.toList [] l n o rfl ho h0⟩
end
def foldC1 (c : Nat) : Nat := if 65 ≤ c ∧ c ≤ 90 then c + 32 else c
def chars : List Nat := [97, 65, 98, 66, 32, 55, 45, 49, 50, 120, 57]
theorem texts_chars : ∀ x ∈ texts, ∀ a ∈ x.cps.toList, a ∈ chars := by decide +kernel
theorem texts_ascii : ∀ x ∈ texts, x.cps.all (· < 128) = true := by decide +kernel
theorem fold_ascii : ∀ x ∈ texts, (foldS x).cps.all (· < 128) = true := by decide +kernel
theorem rtrim_ascii : ∀ x ∈ texts, (rtrimS x).cps.all (· < 128) = true := by decide +kernel
theorem texts_small : ∀ x ∈ texts, x.cps.toList.length ≤ 1000 ∧ (foldS x).cps.toList.length ≤ 1000 ∧ (rtrimS x).cps.toList.length ≤ 1000 := by decide +kernel
theorem rtrim_is : ∀ x ∈ texts, Txt.rstripChars x (Str.ofString " ") = rtrimS x := by decide +kernel
theorem fold_is : ∀ x ∈ texts, Txt.join (Str.ofString "") (x.cps.toList.map fun c => (⟨#[foldC1 c]⟩ : Str)) = foldS x := by decide +kernel
theorem fold_sum : ∀ x ∈ texts, ((x.cps.toList.map fun c => (⟨#[foldC1 c]⟩ : Str)).map (·.length)).sum + (x.cps.toList.map fun c => (⟨#[foldC1 c]⟩ : Str)).length * (Str.ofString "").length ≤ 16777216 := by decide +kernel
theorem texts_len : ∀ x ∈ texts, x.length ≤ 5 := by decide +kernel
theorem chars_small : ∀ a ∈ chars, a < 128 := by decide
theorem sign_lt {a b : Nat} : ([a] : List Nat) < [b] ↔ a < b := by
  rw [List.cons_lt_cons_iff]
  exact ⟨fun q => q.elim id fun q => absurd q.2 (List.lt_irrefl _), .inl⟩
theorem below_A {a : Nat} (h : (⟨#[a]⟩ : Str).cps.toList < (Str.ofString "A").cps.toList) : foldC1 a = a := by
  rw [show (Str.ofString "A").cps.toList = [65] by decide +kernel] at h
  have := sign_lt.mp h
  unfold foldC1; rw [if_neg (by omega)]
theorem above_Z {a : Nat} (h : (Str.ofString "Z").cps.toList < (⟨#[a]⟩ : Str).cps.toList) : foldC1 a = a := by
  rw [show (Str.ofString "Z").cps.toList = [90] by decide +kernel] at h
  have := sign_lt.mp h
  unfold foldC1; rw [if_neg (by omega)]
theorem A_to_Z {a : Nat} (h : ¬ (⟨#[a]⟩ : Str).cps.toList < (Str.ofString "A").cps.toList) (h' : ¬ (Str.ofString "Z").cps.toList < (⟨#[a]⟩ : Str).cps.toList) : foldC1 a = ((a : Int) + 32).toNat := by
  rw [show (Str.ofString "A").cps.toList = [65] by decide +kernel] at h
  rw [show (Str.ofString "Z").cps.toList = [90] by decide +kernel] at h'
  have h1 : ¬ a < 65 := fun q => h (sign_lt.mpr q)
  have h2 : ¬ 90 < a := fun q => h' (sign_lt.mpr q)
  unfold foldC1; rw [if_pos (by omega)]; omega
-- part C4b
section
variable {w : World} {sc : Scope} {c : Cx prg w (Mine.heap w.params) sc} {l : Loc} {n : Led} {X : Exc}
theorem fold_ok {Q : Value → Loc → Led → Prop} {x : Str} {t : Tok} (hx : x ∈ texts) (hr : 1 ≤ c.room) (h : ∀ t, Q (.str (foldS x) t) l n) : CaV (.ref 87) [.str x t] c l n Q X := by
  refine' W.callDef (binds := [(Str.ofString "text", .str x t)]) (xs := [Str.ofString "text"]) ?ho ?hcd ?hbind rfl ?hok (by omega) ?_
  case ho => k_dflt k_is
  case hcd => k_dflt k_is
  case hbind => exact fun s _ => BindsTo.of_eq rfl
  case hok => decide +kernel
  intro c' hr' own' hz'
  change ExL _ c' _ _ _ _
  have as1 := texts_ascii x hx
  have z1 := (texts_small x hx).1
  w_strict walk
  rename_i D I o ho
  refine FoE.overStr (P := fun done l₁ n₁ => ∃ outs m, n₁ = (D, listOf outs.toArray m) :: n ∧ AllC (fun a y => ∃ t, y = .str ⟨#[foldC1 a]⟩ t) done outs ∧ outs.length = done.length ∧ l₁ = [(Str.ofString "signs", .ref D), (Str.ofString "text", .str x t)]) ho ?_ ?_ ⟨[], _, rfl, .nil, rfl, rfl⟩
  · rintro done a rest l₁ n₁ o' u e ⟨outs, m, rfl, hall, hlen, rfl⟩
    have hm : a ∈ x.cps.toList := by rw [e]; simp
    have hc : a < 128 := chars_small a (texts_chars x hx a hm)
    have hz : outs.length ≤ sizeLine := by
      have : done.length ≤ x.cps.toList.length := by rw [e]; simp
      rw [sizeLine_eq]; omega
    clear e hm
    w_strict walk
    · rename_i q
      exact Wk.of (by walk_at "k_ls") Sel.refl ⟨_, rfl, _, _, rfl, hall.snoc ⟨_, by rw [below_A q]⟩, by simp [hlen], rfl⟩
    · rename_i q
      exact Wk.of (by walk_at "k_ls") Sel.refl ⟨_, rfl, _, _, rfl, hall.snoc ⟨_, by rw [above_Z q]⟩, by simp [hlen], rfl⟩
    · rename_i q1 _ q2 _ _ _ _
      exact Wk.of (by walk_at "k_ls") Sel.refl ⟨_, rfl, _, _, rfl, hall.snoc ⟨_, by rw [A_to_Z q1 q2]⟩, by simp [hlen], rfl⟩
  · rintro l₁ n₁ ⟨outs, m, rfl, hall, hlen, rfl⟩
    w_strict walk
    refine CaV.joinL (ys := x.cps.toList.map fun c : Nat => (⟨#[foldC1 c]⟩ : Str)) (by k_mem) hall.strs (fold_sum x hx) fun kk => ?_
    rw [fold_is x hx]
    w_strict walk
    exact RetK.of (h _) (by walk_at "k_sel")
end
-- part NtN
section
variable {prog : Program} {w : World} {A : Around} {E : Value → Shared → Prop} {s : Shared}
def okHint (h : Bool) : Prop := h = h
theorem hint_bytes {b : Array UInt8} {t : Tok} {Q : Bool → Shared → Prop} (h : Q false s) : wpAny (model prog w) A (Builtin.List.listLengthHint (.bytes b t)) Q E s := by
  unfold Builtin.List.listLengthHint
  refine wpAny_bind (wpAny_specialOf (typeIs_bytes s b t) FB.slot_bytes_len.lookup ?_)
  generalize hid : ("bytes.__len__" : String) = id0
  wp_delta
  rw [show splitId id0 = some ("bytes", "__len__") from by subst hid; decide +kernel]
  subst hid
  refine wpAny_bind (wpAny_isInstance (T := "bytes") (b := true) (typeIs_bytes s b t) nsub_bytes_bytes ?_)
  refine wpAny_ite_split (fun hab => absurd hab (by decide)) (fun _ => ?_)
  refine wpAny_ite_split (fun _ => ?_) (fun hab => absurd (by decide +kernel) hab)
  exact wpAny_bind (wpAny_typeOf (typeIs_bytes s b t) (wpAny_pure h))
theorem extend_bytes {R : Result → Shared → Prop} {b : Array UInt8} {t : Tok} (hh : A.handled = none) (hlen : b.size ≤ sizeLine) (S : Addr) (res : Value) (c₀ : Nat) (hS : s.heap.get? S = some { cls := .type "list", data := .seq #[] c₀ })
    (hR : ∀ h' tk acc' c', (∀ b o, b ≠ S → s.heap.get? b = some o → h'.get? b = some o) → h'.get? S = some { cls := .type "list", dict := none, data := .seq acc' c', slots := #[] } →
      ItemsOf (fun i v => ∃ c u, b[i]? = some c ∧ v = .int (c.toNat : Int) u) acc' b.size → R (.ok (.ret res)) { s with heap := h', toks := tk }) :
    wpAny (model prog w) A.in1 (Builtin.List.listExtendWith (.ref S) (.bytes b t) res)
      (fun fin s' => match fin with | .done f => R (.ok f) s' | .again c' => c'.quiet = true ∧ codeAny (model prog w) A c' R s') (fun e s' => R (.error e) s') s := by
  have hSI : S ≠ s.heap.objs.size := Nat.ne_of_lt (Heap.lt_size hS)
  have WS := (KBw.walks (prog := prog) (w := w) (A := A.in1) hh s.heap.objs.size b t).toS
  unfold Builtin.List.listExtendWith
  refine wpAny_bind (wpAny_typeOf (typeIs_bytes s b t) ?_)
  have h1 : Builtin.List.listSameRef (.ref S) (.bytes b t) = false := rfl
  have h2 : (Value.type "bytes" == Value.type "list") = false := by decide
  have h3 : (Value.type "bytes" == Value.type "tuple") = false := by decide
  simp only [h1, h2, h3, Bool.or_false, Bool.false_eq_true, if_false]
  refine wpAny_bind (KBw.pyIter_bytes ?_)
  refine wpAny_bind (wpAny_holding (hint_bytes ?_))
  refine wpAny_ite_split (fun hab => absurd hab (by decide)) (fun _ => wpAny_pure ⟨plainId_quiet F.plain_extend_loop _, ?_⟩)
  refine codeAny_extend_loopS WS hlen S (fun hm => hSI (List.mem_singleton.mp hm)) res b.size 0 _ #[] c₀ rfl (Nat.zero_le _) ⟨_, Heap.get?_push_size _ rfl, rfl, rfl⟩ (Heap.get?_push_of_some _ hS) (ItemsOf.nil _) fun s' acc' c' hm hS' hacc => ?_
  rw [Moved.eq_with hm]
  refine hR s'.heap s'.toks acc' c' (fun b o hb e => hm.heap b o (fun hmem => ?_) (Heap.get?_push_of_some _ e)) hS' hacc
  rcases List.mem_cons.mp hmem with e' | hmem
  · exact hb e'
  · exact absurd (Heap.lt_size e) (by rw [List.mem_singleton.mp hmem]; exact Nat.lt_irrefl _)
theorem init_bytes {R : Result → Shared → Prop} {b : Array UInt8} {t : Tok} (hh : A.handled = none) (hlen : b.size ≤ sizeLine) (S : Addr) (hS : s.heap.get? S = some { cls := .type "list", data := .seq #[] })
    (hR : ∀ h' tk acc' c', (∀ b o, b ≠ S → s.heap.get? b = some o → h'.get? b = some o) → h'.get? S = some { cls := .type "list", dict := none, data := .seq acc' c', slots := #[] } →
      ItemsOf (fun i v => ∃ c u, b[i]? = some c ∧ v = .int (c.toNat : Int) u) acc' b.size → R (.ok (.ret .none)) { s with heap := h', toks := tk }) :
    wpAny (model prog w) A.in1 (Builtin.«list.__init__» ⟨[.ref S, .bytes b t], []⟩)
      (fun fin s' => match fin with | .done f => R (.ok f) s' | .again c' => c'.quiet = true ∧ codeAny (model prog w) A c' R s') (fun e s' => R (.error e) s') s := by
  show wpAny _ _ (do let old ← Builtin.List.listItems (.ref S); Builtin.List.listUpdate (.ref S) (fun _ => #[]); letGo old.toList.reverse; Builtin.List.listExtendWith (.ref S) (.bytes b t) .none) _ _ s
  refine wpAny_bind ?_
  unfold Builtin.List.listItems
  refine wpAny_bind (wpAny_seqItems hS rfl (wpAny_pure ?_))
  show wpAny _ _ (updateSeq S (fun _ => #[]) >>= fun _ => letGo (#[] : Array Value).toList.reverse >>= fun _ => Builtin.List.listExtendWith (.ref S) (.bytes b t) .none) _ _ s
  refine wpAny_bind (wpAny_updateSeq hS rfl ?_)
  have hS₂ := Heap.get?_update_self (Obj.mapSeq (fun _ => (#[] : Array Value))) hS rfl
  refine wpAny_bind (wpAny_letGo ?_)
  exact extend_bytes hh hlen S .none _ hS₂ fun h' tk acc' c' hk hS' hacc => hR h' tk acc' c' (fun b o hb e => hk b o hb ((Heap.get?_update_other _ _ (Ne.symm hb)).trans e)) hS' hacc
end
section
variable {pr : Program} {w : World} {K : Frag} {sc : Scope} {c : Cx pr w K sc} {l : Loc} {n : Led} {X : Exc} {Q : Value → Loc → Led → Prop}
theorem ints_of {b : List UInt8} : ∀ (vs : List Value), vs.length = b.length → (∀ (j : Nat) (v : Value), vs[j]? = some v → ∃ (c : UInt8) (u : Tok), b[j]? = some c ∧ v = Value.int (c.toNat : Int) u) → IntsAre vs (b.map fun c => (c.toNat : Int)) := by
  induction b with
  | nil => intro vs h _; cases vs with
    | nil => exact .nil
    | cons _ _ => simp at h
  | cons a b ih =>
    intro vs h g
    cases vs with
    | nil => simp at h
    | cons v vs =>
      obtain ⟨c, u, e1, e2⟩ := g 0 v rfl
      simp only [List.getElem?_cons_zero, Option.some.injEq] at e1
      subst e1 e2
      exact .cons _ _ (ih vs (by simpa using h) fun j v hj => by simpa using g (j + 1) v (by simpa using hj))
theorem CaV.list_b {b : List UInt8} {t : Tok} (hz : b.length ≤ 1000) (h : ∀ a vs k, IntsAre vs (b.map fun c => (c.toNat : Int)) → Q (.ref a) l ((a, listOf vs.toArray k) :: n)) : CaV (.type "list") [.bytes b.toArray t] c l n Q X := by
  intro s₀ s m z
  refine callType_codes (Q₁ := fun obj s₁ => obj = .ref s.heap.objs.size ∧ s₁ = { s with heap := s.heap.push { cls := .type "list", data := .seq #[] } }) F.called_list (F.typeCall_list_1 _) F.entry_list_init
    (code_list_new _ ⟨rfl, rfl⟩) fun obj s₁ h₁ => ?_
  obtain ⟨rfl, rfl⟩ := h₁
  have hS : (s.heap.push { cls := .type "list", data := .seq #[] }).get? s.heap.objs.size = some { cls := .type "list", data := .seq #[] } := Heap.get?_push_size _ rfl
  refine ⟨⟨_, hS, rfl⟩, F.args_list_init_2 _ _, init_bytes (A := c.A.in1) c.hh (by rw [sizeLine_eq, List.size_toArray]; omega) _ hS fun h' tk acc' c' hk hS' hacc => ?_⟩
  refine ⟨rfl, ?_⟩
  have hk' : ∀ b o, s.heap.get? b = some o → h'.get? b = some o := fun b o e => hk b o (Nat.ne_of_lt (Heap.lt_size e)) (Heap.get?_push_of_some _ e)
  have hS'' : h'.get? s.heap.objs.size = some (listOf acc'.toList.toArray c') := by rw [Array.toArray_toList]; exact hS'
  exact (z.made (t := tk) hk' (Heap.get?_none_of_le (Nat.le_refl _)) hS'').end (h _ acc'.toList c' (ints_of _ (by rw [Array.length_toList, hacc.1, List.size_toArray]) fun j v hj => by simpa using hacc.2 j v (by simpa using hj)))
theorem SbT.top {a : Addr} {x : Str} {t : Tok} {es : Array DictEntry} {k : Nat} {v : Value} {value slice : Expr} (hl : K.lookup a = some ⟨.type "dict", none, .dict es k, #[]⟩) (hk : KeysLit w.params es.toList) (e : nsIn K a x = some (some v)) (h : Q v l n)
    (hs : subscripted slice false (.ref a) (.str x t) = operate [.ref a, .str x t] (getItem (.ref a) (.str x t)) := by with_unfolding_all rfl) : SbT (.ref a) (.str x t) value slice c l n Q X :=
  fun s₀ s m z => topItem_K z.F c.X hl hk e ((z.toks _).end h) hs
end
local macro_rules | `(tactic| walk_at "SbT ref str") => `(tactic| (refine' SbT.top ?hl ?hk ?he ?_ ?hs; (case hl => k_dflt k_is); (case hk => k_dflt k_keys); (case he => k_dflt k_is); (case hs => with_unfolding_all rfl)))
local macro_rules | `(tactic| walk_at "CaV type:list") => `(tactic| (refine' CaV.list_b ?hz ?_; (case hz => decide); intro _ _ _ _))
local macro_rules | `(tactic| walk_at "CmO Lt ref ref") => `(tactic| (refine' CmO.lt_ll ?hd ?he ?h1 ?h2 ?_; (case hd => k_mem); (case he => k_mem); (case h1 => assumption); (case h2 => assumption)))
-- part NtP
def rank : Value → Int
  | .int _ _ => 1
  | .str _ _ => 2
  | .bytes _ _ => 3
  | _ => 0
def ptsS (x : Str) : List Int := x.cps.toList.map fun c : Nat => (c : Int)
def ptsB (x : Array UInt8) : List Int := x.toList.map fun c : UInt8 => (c.toNat : Int)
def pts (k : Str) : Value → List Int
  | .int i _ => [i]
  | .str x _ => ptsS (colS k x)
  | .bytes x _ => ptsB x
  | _ => []
def keyV (k : Str) (v : Value) : List Int := rank v :: pts k v
def lessV (k : Str) (a b : Value) : Bool := decide (keyV k a < keyV k b)
def sgnV (k : Str) (a b : Value) : Int := if keyV k a < keyV k b then -1 else if keyV k b < keyV k a then 1 else 0
theorem map_lt : ∀ (xs ys : List Nat), (xs.map (fun c : Nat => (c : Int)) < ys.map fun c : Nat => (c : Int)) ↔ xs < ys
  | [], [] => by simp
  | [], _ :: _ => by simp
  | _ :: _, [] => by simp
  | x :: xs, y :: ys => by
    rw [List.map_cons, List.map_cons, List.cons_lt_cons_iff, List.cons_lt_cons_iff, map_lt xs ys]
    constructor
    · rintro (h | ⟨h, k⟩)
      · exact .inl (by omega)
      · exact .inr ⟨by omega, k⟩
    · rintro (h | ⟨h, k⟩)
      · exact .inl (by omega)
      · exact .inr ⟨by omega, k⟩
theorem key_lt_same {k : Str} {a b : Value} (h : rank a = rank b) : keyV k a < keyV k b ↔ pts k a < pts k b := by
  unfold keyV; rw [List.cons_lt_cons_iff, h]; simp
theorem key_lt_other {k : Str} {a b : Value} (h : rank a ≠ rank b) : keyV k a < keyV k b ↔ rank a < rank b := by
  unfold keyV; rw [List.cons_lt_cons_iff]; exact ⟨fun q => q.elim id fun q => absurd q.1 h, .inl⟩
theorem sgn_other {k : Str} {a b : Value} (h : rank a ≠ rank b) : sgnV k a b = if rank a < rank b then -1 else if rank b < rank a then 1 else 0 := by
  unfold sgnV; simp only [key_lt_other h, key_lt_other (Ne.symm h)]
theorem sgn_int {k : Str} {i j : Int} {t u : Tok} : sgnV k (.int i t) (.int j u) = if i < j then -1 else if j < i then 1 else 0 := by
  unfold sgnV
  have h : ∀ i j t u, (keyV k (.int i t) < keyV k (.int j u)) ↔ i < j := fun i j t u => by
    refine (key_lt_same (by rfl)).trans ?_; show [i] < [j] ↔ _
    rw [List.cons_lt_cons_iff]; simp
  simp only [h]
theorem sgn_str {k x y : Str} {t u : Tok} : sgnV k (.str x t) (.str y u) = if (colS k x).cps.toList < (colS k y).cps.toList then -1 else if (colS k y).cps.toList < (colS k x).cps.toList then 1 else 0 := by
  unfold sgnV
  have h : ∀ x y t u, (keyV k (.str x t) < keyV k (.str y u)) ↔ (colS k x).cps.toList < (colS k y).cps.toList := fun x y t u => by
    exact (key_lt_same (by rfl)).trans (map_lt _ _)
  simp only [h]
theorem order_blobs : ∀ x ∈ blobs, ∀ y ∈ blobs, (Builtin.Bytes.order x y = .lt ↔ ptsB x.toArray < ptsB y.toArray) := by decide +kernel
theorem sgn_bytes {k : Str} {x y : List UInt8} {t u : Tok} (hx : x ∈ blobs) (hy : y ∈ blobs) :
    sgnV k (.bytes x.toArray t) (.bytes y.toArray u) = if Builtin.Bytes.order x.toArray.toList y.toArray.toList = .lt then -1 else if Builtin.Bytes.order y.toArray.toList x.toArray.toList = .lt then 1 else 0 := by
  unfold sgnV
  rw [List.toList_toArray, List.toList_toArray]
  have h : ∀ x ∈ blobs, ∀ y ∈ blobs, ∀ t u, (keyV k (.bytes x.toArray t) < keyV k (.bytes y.toArray u)) ↔ Builtin.Bytes.order x y = .lt := fun x hx y hy t u => by
    exact (key_lt_same (by rfl)).trans (order_blobs x hx y hy).symm
  simp only [h x hx y hy, h y hy x hx]
def notNone (v : Value) : Bool := !(v == .none)
/-- what `better` keeps -/
def betterV (k : Str) (sg : Int) (v best : Value) : Value := if sgnV k v best = sg then v else best
/-- the aggregate's best of the values that are not null -/
def aggBest (k : Str) (sg : Int) : List Value → Value
  | [] => .none
  | v :: vs => vs.foldl (fun b v => betterV k sg v b) v
def lawStep (k : Str) (least : Bool) (best v : Value) : Value :=
  if v == .none then best else if best == .none then v else if (if least then lessV k v best else lessV k best v) then v else best
def lawBest (k : Str) (least : Bool) (vs : List Value) : Value := vs.foldl (lawStep k least) .none
def alikeV (k : Str) (a b : Value) : Bool := if a == .none || b == .none then a == .none && b == .none else !lessV k a b && !lessV k b a
-- part C5
section
variable {w : World} {sc : Scope} {c : Cx prg w (Mine.heap w.params) sc} {l : Loc} {n : Led} {X : Exc}
theorem rtrim_split : ∀ x ∈ texts, x = ⟨#[]⟩ ∨ x = ⟨#[98, 32]⟩ ∨ (1 ≤ x.length ∧ ((Txt.item x ((x.length : Int) - 1)).cps.toList == (Str.ofString " ").cps.toList) = false ∧ Txt.slice x none (some (x.length : Int)) = colS (Str.ofString "rtrim") x) := by decide +kernel
theorem fits_small : ∀ {a : Int}, -10 ≤ a → a ≤ 10 → fitsSsize a = true := by
  intro a h1 h2
  have key : ∀ k : Fin 21, fitsSsize ((k.1 : Int) - 10) = true := by decide +kernel
  have := key ⟨(a + 10).toNat, by omega⟩
  rwa [show (((a + 10).toNat : Nat) : Int) - 10 = a by omega] at this
local macro_rules | `(tactic| walk_at "brK") => `(tactic| first | refine brK_f (by assumption) ?_ | refine brK_t (by assumption) ?_)
theorem collate_ok {Q : Value → Loc → Led → Prop} {x k : Str} {t u : Tok} (hx : x ∈ texts) (hk : k ∈ colls) (hr : 2 ≤ c.room) (h : ∀ t, Q (.str (colS k x) t) l n) : CaV (.ref 101) [.str x t, .str k u] c l n Q X := by
  simp only [colls, List.mem_cons, List.not_mem_nil, or_false] at hk
  rcases hk with rfl | rfl | rfl
  · skip
    refine' W.callDef (binds := [(Str.ofString "text", .str x t), (Str.ofString "collation", .str (Str.ofString "binary") u)]) (xs := [Str.ofString "text", Str.ofString "collation"]) ?ho ?hcd ?hbind rfl ?hok (by omega) ?_
    case ho => k_dflt k_is
    case hcd => k_dflt k_is
    case hbind => exact fun s _ => BindsTo.of_eq rfl
    case hok => decide +kernel
    intro c' hr' own' hz'
    change ExL _ c' _ _ _ _
    w_strict walk
    exact RetK.of (h _) Sel.refl
  · skip
    refine' W.callDef (binds := [(Str.ofString "text", .str x t), (Str.ofString "collation", .str (Str.ofString "nocase") u)]) (xs := [Str.ofString "text", Str.ofString "collation"]) ?ho ?hcd ?hbind rfl ?hok (by omega) ?_
    case ho => k_dflt k_is
    case hcd => k_dflt k_is
    case hbind => exact fun s _ => BindsTo.of_eq rfl
    case hok => decide +kernel
    intro c' hr' own' hz'
    change ExL _ c' _ _ _ _
    w_strict walk
    refine fold_ok hx (by omega) fun t => ?_
    w_strict walk
    exact RetK.of (h _) Sel.refl
  · skip
    refine' W.callDef (binds := [(Str.ofString "text", .str x t), (Str.ofString "collation", .str (Str.ofString "rtrim") u)]) (xs := [Str.ofString "text", Str.ofString "collation"]) ?ho ?hcd ?hbind rfl ?hok (by omega) ?_
    case ho => k_dflt k_is
    case hcd => k_dflt k_is
    case hbind => exact fun s _ => BindsTo.of_eq rfl
    case hok => decide +kernel
    intro c' hr' own' hz'
    change ExL _ c' _ _ _ _
    rcases rtrim_split x hx with rfl | rfl | ⟨l1, hi, hs⟩
    · w_strict walk
      refine WhE.of 4 ?_
      w_strict walk
      exact RetK.str (by decide +kernel) (h _) (by walk_at "k_sel")
    · w_strict walk
      refine WhE.of 4 ?_
      w_strict walk
      exact RetK.str (by decide +kernel) (h _) (by walk_at "k_sel")
    · skip
      have l2 : x.length ≤ sizeLine := by have := texts_len x hx; rw [sizeLine_eq]; omega
      have l3 : fitsSsize ((x.length : Int) - 1) = true := by
        have := texts_len x hx
        exact fits_small (by omega) (by omega)
      w_strict walk
      refine WhE.of 4 ?_
      w_strict walk
      refine' SbT.str l3 (by omega) (by omega) ?_ ?hs ?ht
      case hs => with_unfolding_all rfl
      case ht => intro _; with_unfolding_all rfl
      intro _
      w_strict walk
      exact RetK.str hs (h _) (by walk_at "k_sel")
theorem compare_ok {Q : Value → Loc → Led → Prop} {a b : Value} {k : Str} {u : Tok} (ha : Okv a) (hb : Okv b) (na : a ≠ .none) (nb : b ≠ .none) (hk : k ∈ colls) (hr : 4 ≤ c.room) (h : ∀ t, Q (.int (sgnV k a b) t) l n) :
    CaV (.ref 116) [a, b, .str k u] c l n Q X := by
  cases ha with
  | none => exact absurd rfl na
  | @int i ti _ _ =>
    cases hb with
    | none => exact absurd rfl nb
    | @int j tj _ _ =>
      refine' W.callDef (binds := [(Str.ofString "a", .int i ti), (Str.ofString "b", .int j tj), (Str.ofString "collation", .str k u)]) (xs := [Str.ofString "a", Str.ofString "b", Str.ofString "collation"]) ?ho ?hcd ?hbind rfl ?hok (by omega) ?_
      case ho => k_dflt k_is
      case hcd => k_dflt k_is
      case hbind => exact fun s hs => binds_K hs rfl (by k_dflt k_is) rfl rfl rfl
      case hok => decide +kernel
      intro c' hr' own' hz'
      change ExL _ c' _ _ _ _
      w_strict walk
      exact RetK.int sgn_int.symm (h _) (by walk_at "k_sel")
    | @str y ty hy =>
      refine' W.callDef (binds := [(Str.ofString "a", .int i ti), (Str.ofString "b", .str y ty), (Str.ofString "collation", .str k u)]) (xs := [Str.ofString "a", Str.ofString "b", Str.ofString "collation"]) ?ho ?hcd ?hbind rfl ?hok (by omega) ?_
      case ho => k_dflt k_is
      case hcd => k_dflt k_is
      case hbind => exact fun s hs => binds_K hs rfl (by k_dflt k_is) rfl rfl rfl
      case hok => decide +kernel
      intro c' hr' own' hz'
      change ExL _ c' _ _ _ _
      w_strict walk
      exact RetK.int (sgn_other (a := .int i ti) (b := .str y ty) (by show (1 : Int) ≠ 2; decide)).symm (h _) (by walk_at "k_sel")
    | @bytes y ty hy =>
      refine' W.callDef (binds := [(Str.ofString "a", .int i ti), (Str.ofString "b", .bytes y.toArray ty), (Str.ofString "collation", .str k u)]) (xs := [Str.ofString "a", Str.ofString "b", Str.ofString "collation"]) ?ho ?hcd ?hbind rfl ?hok (by omega) ?_
      case ho => k_dflt k_is
      case hcd => k_dflt k_is
      case hbind => exact fun s hs => binds_K hs rfl (by k_dflt k_is) rfl rfl rfl
      case hok => decide +kernel
      intro c' hr' own' hz'
      change ExL _ c' _ _ _ _
      w_strict walk
      exact RetK.int (sgn_other (a := .int i ti) (b := .bytes y.toArray ty) (by show (1 : Int) ≠ 3; decide)).symm (h _) (by walk_at "k_sel")
  | @str x tx hx =>
    cases hb with
    | none => exact absurd rfl nb
    | @int j tj _ _ =>
      refine' W.callDef (binds := [(Str.ofString "a", .str x tx), (Str.ofString "b", .int j tj), (Str.ofString "collation", .str k u)]) (xs := [Str.ofString "a", Str.ofString "b", Str.ofString "collation"]) ?ho ?hcd ?hbind rfl ?hok (by omega) ?_
      case ho => k_dflt k_is
      case hcd => k_dflt k_is
      case hbind => exact fun s hs => binds_K hs rfl (by k_dflt k_is) rfl rfl rfl
      case hok => decide +kernel
      intro c' hr' own' hz'
      change ExL _ c' _ _ _ _
      w_strict walk
      exact RetK.int (sgn_other (a := .str x tx) (b := .int j tj) (by show (2 : Int) ≠ 1; decide)).symm (h _) (by walk_at "k_sel")
    | @str y ty hy =>
      refine' W.callDef (binds := [(Str.ofString "a", .str x tx), (Str.ofString "b", .str y ty), (Str.ofString "collation", .str k u)]) (xs := [Str.ofString "a", Str.ofString "b", Str.ofString "collation"]) ?ho ?hcd ?hbind rfl ?hok (by omega) ?_
      case ho => k_dflt k_is
      case hcd => k_dflt k_is
      case hbind => exact fun s hs => binds_K hs rfl (by k_dflt k_is) rfl rfl rfl
      case hok => decide +kernel
      intro c' hr' own' hz'
      change ExL _ c' _ _ _ _
      w_strict walk
      refine collate_ok hx hk (by omega) fun t => ?_
      w_strict walk
      refine collate_ok hy hk (by omega) fun t => ?_
      w_strict walk
      exact RetK.int sgn_str.symm (h _) (by walk_at "k_sel")
    | @bytes y ty hy =>
      refine' W.callDef (binds := [(Str.ofString "a", .str x tx), (Str.ofString "b", .bytes y.toArray ty), (Str.ofString "collation", .str k u)]) (xs := [Str.ofString "a", Str.ofString "b", Str.ofString "collation"]) ?ho ?hcd ?hbind rfl ?hok (by omega) ?_
      case ho => k_dflt k_is
      case hcd => k_dflt k_is
      case hbind => exact fun s hs => binds_K hs rfl (by k_dflt k_is) rfl rfl rfl
      case hok => decide +kernel
      intro c' hr' own' hz'
      change ExL _ c' _ _ _ _
      w_strict walk
      exact RetK.int (sgn_other (a := .str x tx) (b := .bytes y.toArray ty) (by show (2 : Int) ≠ 3; decide)).symm (h _) (by walk_at "k_sel")
  | @bytes x tx hx =>
    cases hb with
    | none => exact absurd rfl nb
    | @int j tj _ _ =>
      refine' W.callDef (binds := [(Str.ofString "a", .bytes x.toArray tx), (Str.ofString "b", .int j tj), (Str.ofString "collation", .str k u)]) (xs := [Str.ofString "a", Str.ofString "b", Str.ofString "collation"]) ?ho ?hcd ?hbind rfl ?hok (by omega) ?_
      case ho => k_dflt k_is
      case hcd => k_dflt k_is
      case hbind => exact fun s hs => binds_K hs rfl (by k_dflt k_is) rfl rfl rfl
      case hok => decide +kernel
      intro c' hr' own' hz'
      change ExL _ c' _ _ _ _
      w_strict walk
      exact RetK.int (sgn_other (a := .bytes x.toArray tx) (b := .int j tj) (by show (3 : Int) ≠ 1; decide)).symm (h _) (by walk_at "k_sel")
    | @str y ty hy =>
      refine' W.callDef (binds := [(Str.ofString "a", .bytes x.toArray tx), (Str.ofString "b", .str y ty), (Str.ofString "collation", .str k u)]) (xs := [Str.ofString "a", Str.ofString "b", Str.ofString "collation"]) ?ho ?hcd ?hbind rfl ?hok (by omega) ?_
      case ho => k_dflt k_is
      case hcd => k_dflt k_is
      case hbind => exact fun s hs => binds_K hs rfl (by k_dflt k_is) rfl rfl rfl
      case hok => decide +kernel
      intro c' hr' own' hz'
      change ExL _ c' _ _ _ _
      w_strict walk
      exact RetK.int (sgn_other (a := .bytes x.toArray tx) (b := .str y ty) (by show (3 : Int) ≠ 2; decide)).symm (h _) (by walk_at "k_sel")
    | @bytes y ty hy =>
      refine' W.callDef (binds := [(Str.ofString "a", .bytes x.toArray tx), (Str.ofString "b", .bytes y.toArray ty), (Str.ofString "collation", .str k u)]) (xs := [Str.ofString "a", Str.ofString "b", Str.ofString "collation"]) ?ho ?hcd ?hbind rfl ?hok (by omega) ?_
      case ho => k_dflt k_is
      case hcd => k_dflt k_is
      case hbind => exact fun s hs => binds_K hs rfl (by k_dflt k_is) rfl rfl rfl
      case hok => decide +kernel
      intro c' hr' own' hz'
      change ExL _ c' _ _ _ _
      w_strict walk
      exact RetK.int (sgn_bytes hx hy).symm (h _) (by walk_at "k_sel")
theorem better_ok {Q : Value → Loc → Led → Prop} {v best : Value} {sg : Int} {k : Str} {u t : Tok} (ha : Okv v) (hb : Okv best) (na : v ≠ .none) (nb : best ≠ .none) (hk : k ∈ colls) (hr : 5 ≤ c.room) (h : Q (betterV k sg v best) l n) :
    CaV (.ref 158) [v, best, .int sg t, .str k u] c l n Q X := by
  refine' W.callDef (binds := [(Str.ofString "value", v), (Str.ofString "best", best), (Str.ofString "sign", .int sg t), (Str.ofString "collation", .str k u)]) (xs := [Str.ofString "value", Str.ofString "best", Str.ofString "sign", Str.ofString "collation"]) ?ho ?hcd ?hbind rfl ?hok (by omega) ?_
  case ho => k_dflt k_is
  case hcd => k_dflt k_is
  case hbind => exact fun s _ => BindsTo.of_eq rfl
  case hok => decide +kernel
  intro c' hr' own' hz'
  change ExL _ c' _ _ _ _
  w_strict walk
  refine compare_ok ha hb na nb hk (by omega) fun t => ?_
  w_strict walk
  · rename_i q
    have e : betterV k sg v best = v := if_pos (eq_of_beq q)
    rw [e] at h
    exact RetK.of h Sel.refl
  · rename_i q
    have e : betterV k sg v best = best := if_neg (ne_of_beq_false q)
    rw [e] at h
    exact RetK.of h Sel.refl
end
-- part NtO
def WIt (o : Obj) (x : Str) (t : Tok) (i : Nat) : Prop := o.cls = .type "str_iterator" ∧ o.data = .fields #[.str x t, .int i 0]
section
variable {pr : Program} {w : World} {K : Frag} {sc : Scope} {c : Cx pr w K sc} {l : Loc} {n : Led} {X : Exc}
section
variable {Q : Value → Loc → Led → Prop} {x y z : Str} {t u : Tok}
theorem ItR.strW (ha : x.cps.all (· < 128) = false) (h : ∀ a o, WIt o x t 0 → Q (.ref a) l ((a, o) :: n)) : ItR (.str x t) c l n Q X := by
  intro s₀ s m z
  with_reducible refine wpAny_pyIter_wide ha ((z.push (t := s.toks) { cls := .type "str_iterator", data := .fields #[.str x t, .int 0 0] } rfl).end (h _ _ ?_))
  exact ⟨rfl, rfl⟩
theorem CaV.lstripE (e : Txt.lstripChars x y = z) (hx : x.length ≤ sizeLine) (h : ∀ k, Q (.str z k) l n) : CaV (.builtin "str.lstrip") [.str x t, .str y u] c l n Q X := CaV.lstrip hx (by rw [e]; exact h)
theorem CaV.rstripE (e : Txt.rstripChars x y = z) (hx : x.length ≤ sizeLine) (h : ∀ k, Q (.str z k) l n) : CaV (.builtin "str.rstrip") [.str x t, .str y u] c l n Q X := CaV.rstrip hx (by rw [e]; exact h)
theorem CaV.joinE {d : Addr} {its : List Value} {k : Nat} {ys : List Str} (hm : Mm (d, listOf its.toArray k) n) (hs : StrsAre its ys) (hz : (ys.map (·.length)).sum + ys.length * x.length ≤ 16777216) (e : Txt.join x ys = z) (h : ∀ k, Q (.str z k) l n) : CaV (.builtin "str.join") [.str x t, .ref d] c l n Q X :=
  CaV.joinL hm hs hz (by rw [e]; exact h)
theorem CaV.loweE (e : Txt.lower x = z) (hz : Builtin.Str.tooLong (Txt.lower x).length = false) (h : ∀ k, Q (.str z k) l n) : CaV (.builtin "str.lower") [.str x t] c l n Q X := CaV.lower e hz h
theorem SlT.str_snE {a : Int} {u : Tok} {value slice : Expr} (e : Txt.slice x (some a) Option.none = z) (hz : x.length ≤ sizeLine) (h : ∀ k, Q (.str z k) l n)
    (hs : ∀ s : Addr, subscripted slice false (.str x t) (.ref s) = operate [.ref s, .str x t] (getItem (.str x t) (.ref s)) := by intro _; with_unfolding_all rfl) (ht : ∀ r, letTemporaryGo value (.str x t) r = pure () := by intro _; with_unfolding_all rfl) : SlT (.str x t) (.int a u) .none .none value slice c l n Q X :=
  SlT.str_sn hz (by rw [e]; exact h) hs ht
end
section
variable {Q : Option Value → Loc → Led → Prop}
theorem NxT.wide_item {I : Addr} {x : Str} {t : Tok} {i a : Nat} {o : Obj} {C : Obj → Led} (hp : Put n I o C) (ho : WIt o x t i) (hx : x.cps[i]? = some a) (h : ∀ o' u, WIt o' x t (i + 1) → Q (some (.str ⟨#[a]⟩ u)) l (C o')) : NxT (.ref I) c l n Q X := by
  intro s₀ s m z
  exact wpAny_pyNext_wide_item ⟨o, (z.N _ hp.mem).1, ho.1, ho.2⟩ hx fun h' ⟨o', ho', hc, hd⟩ hs => (z.change hp hs.extBut ho').end (h o' _ ⟨hc, hd⟩)
end
end
local macro_rules | `(tactic| walk_at "ItR str") => `(tactic| first
  | (refine' ItR.str ?ha ?_; (case ha => first | assumption | decide +kernel); intro _ _ _)
  | (refine' ItR.strW ?ha ?_; (case ha => decide +kernel); intro _ _ _))
local macro_rules | `(tactic| walk_at "NxT ref") => `(tactic| (refine' NxT.wide_item ?hp ?ho ?hx ?_; (case hp => k_upd); (case ho => with_reducible assumption); (case hx => rfl); intro _ _ _))
local macro_rules | `(tactic| walk_at "k_rem") => `(tactic| with_reducible (first | exact Rem.head | (refine' Rem.tail ?rest; (case rest => walk_at "k_rem"))))
local macro_rules | `(tactic| walk_at "k_rm") => `(tactic| with_reducible (first | exact Rm.head | (refine' Rm.tail ?rest; (case rest => walk_at "k_rm"))))
theorem RetK.ints {Q : Value → Loc → Led → Prop} {l l' : Loc} {n n' : Led} {a : Addr} {vs : List Value} {m : Nat} {ns : List Int} (h : ∀ d vs m, IntsAre vs ns → Q (.ref d) l ((d, listOf vs.toArray m) :: n)) (hs : Sel ((a, listOf vs.toArray m) :: n) n') (hi : IntsAre vs ns) : RetK Q l (.ret (.ref a)) l' n' := RetK.of (h a vs m hi) hs
-- part C6
section
variable {w : World} {sc : Scope} {c : Cx prg w (Mine.heap w.params) sc} {l : Loc} {n : Led} {X : Exc}
theorem class_ok {Q : Value → Loc → Led → Prop} {a : Value} (ha : Okv a) (hr : 1 ≤ c.room) (h : ∀ t, Q (.int (rank a) t) l n) : CaV (.ref 228) [a] c l n Q X := by
  cases ha with
  | none =>
    refine' W.callDef (binds := [(Str.ofString "value", .none)]) (xs := [Str.ofString "value"]) ?ho ?hcd ?hbind rfl ?hok (by omega) ?_
    case ho => k_dflt k_is
    case hcd => k_dflt k_is
    case hbind => exact fun s _ => BindsTo.of_eq rfl
    case hok => decide +kernel
    intro c' hr' own' hz'
    change ExL _ c' _ _ _ _
    w_strict walk
    exact RetK.of (h _) Sel.refl
  | @int i ti _ _ =>
    refine' W.callDef (binds := [(Str.ofString "value", .int i ti)]) (xs := [Str.ofString "value"]) ?ho ?hcd ?hbind rfl ?hok (by omega) ?_
    case ho => k_dflt k_is
    case hcd => k_dflt k_is
    case hbind => exact fun s _ => BindsTo.of_eq rfl
    case hok => decide +kernel
    intro c' hr' own' hz'
    change ExL _ c' _ _ _ _
    w_strict walk
    exact RetK.of (h _) Sel.refl
  | @str x tx hx =>
    refine' W.callDef (binds := [(Str.ofString "value", .str x tx)]) (xs := [Str.ofString "value"]) ?ho ?hcd ?hbind rfl ?hok (by omega) ?_
    case ho => k_dflt k_is
    case hcd => k_dflt k_is
    case hbind => exact fun s _ => BindsTo.of_eq rfl
    case hok => decide +kernel
    intro c' hr' own' hz'
    change ExL _ c' _ _ _ _
    w_strict walk
    exact RetK.of (h _) Sel.refl
  | @bytes x tx hx =>
    refine' W.callDef (binds := [(Str.ofString "value", .bytes x.toArray tx)]) (xs := [Str.ofString "value"]) ?ho ?hcd ?hbind rfl ?hok (by omega) ?_
    case ho => k_dflt k_is
    case hcd => k_dflt k_is
    case hbind => exact fun s _ => BindsTo.of_eq rfl
    case hok => decide +kernel
    intro c' hr' own' hz'
    change ExL _ c' _ _ _ _
    w_strict walk
    exact RetK.of (h _) Sel.refl
theorem text_str {Q : Value → Loc → Led → Prop} {x : Str} {t : Tok} (hr : 1 ≤ c.room) (h : Q (.str x t) l n) : CaV (.ref 247) [.str x t] c l n Q X := by
  refine' W.callDef (binds := [(Str.ofString "value", .str x t)]) (xs := [Str.ofString "value"]) ?ho ?hcd ?hbind rfl ?hok (by omega) ?_
  case ho => k_dflt k_is
  case hcd => k_dflt k_is
  case hbind => exact fun s _ => BindsTo.of_eq rfl
  case hok => decide +kernel
  intro c' hr' own' hz'
  change ExL _ c' _ _ _ _
  w_strict walk
  exact RetK.of h Sel.refl
theorem text_int {Q : Value → Loc → Led → Prop} {i : Int} {t : Tok} (hr : 1 ≤ c.room) (hi : i.natAbs.log2 < 1920) (h : ∀ t, Q (.str (Str.ofString (toString i)) t) l n) : CaV (.ref 247) [.int i t] c l n Q X := by
  refine' W.callDef (binds := [(Str.ofString "value", .int i t)]) (xs := [Str.ofString "value"]) ?ho ?hcd ?hbind rfl ?hok (by omega) ?_
  case ho => k_dflt k_is
  case hcd => k_dflt k_is
  case hbind => exact fun s _ => BindsTo.of_eq rfl
  case hok => decide +kernel
  intro c' hr' own' hz'
  change ExL _ c' _ _ _ _
  w_strict walk
  refine CaV.str_i hi fun k => ?_
  w_strict walk
  exact RetK.of (h _) Sel.refl
end
-- part C7
section
variable {w : World} {sc : Scope} {c : Cx prg w (Mine.heap w.params) sc} {l : Loc} {n : Led} {X : Exc}
theorem points_ok {Q : Value → Loc → Led → Prop} {a : Value} {k : Str} {t : Tok} (ha : Okv a) (na : a ≠ .none) (hk : k ∈ colls) (hr : 1 ≤ c.room) (h : ∀ d vs m, IntsAre vs (pts k a) → Q (.ref d) l ((d, listOf vs.toArray m) :: n)) : CaV (.ref 233) [a, .str k t] c l n Q X := by
  cases ha with
  | none => exact absurd rfl na
  | @int i ti _ _ =>
    refine' W.callDef (binds := [(Str.ofString "value", .int i ti), (Str.ofString "collation", .str k t)]) (xs := [Str.ofString "value", Str.ofString "collation"]) ?ho ?hcd ?hbind rfl ?hok (by omega) ?_
    case ho => k_dflt k_is
    case hcd => k_dflt k_is
    case hbind => exact fun s _ => BindsTo.of_eq rfl
    case hok => decide +kernel
    intro c' hr' own' hz'
    change ExL _ c' _ _ _ _
    w_strict walk
    exact RetK.of (h _ _ _ (.cons _ _ .nil)) (by walk_at "k_sel")
  | @bytes x tx hx =>
    refine' W.callDef (binds := [(Str.ofString "value", .bytes x.toArray tx), (Str.ofString "collation", .str k t)]) (xs := [Str.ofString "value", Str.ofString "collation"]) ?ho ?hcd ?hbind rfl ?hok (by omega) ?_
    case ho => k_dflt k_is
    case hcd => k_dflt k_is
    case hbind => exact fun s _ => BindsTo.of_eq rfl
    case hok => decide +kernel
    intro c' hr' own' hz'
    change ExL _ c' _ _ _ _
    simp only [blobs, List.mem_cons, List.not_mem_nil, or_false] at hx
    rcases hx with rfl | rfl | rfl | rfl
    all_goals (w_strict walk)
    all_goals exact RetK.of (h _ _ _ (by assumption)) (by walk_at "k_sel")
  | @str x tx hx =>
    have as1 := texts_ascii x hx
    have as2 := fold_ascii x hx
    have as3 := rtrim_ascii x hx
    obtain ⟨z1, z2, z3⟩ := texts_small x hx
    have xl : x.length ≤ sizeLine := by have := texts_len x hx; rw [sizeLine_eq]; omega
    simp only [colls, List.mem_cons, List.not_mem_nil, or_false] at hk
    rcases hk with rfl | rfl | rfl
    · skip
      refine' W.callDef (binds := [(Str.ofString "value", .str x tx), (Str.ofString "collation", .str (Str.ofString "binary") t)]) (xs := [Str.ofString "value", Str.ofString "collation"]) ?ho ?hcd ?hbind rfl ?hok (by omega) ?_
      case ho => k_dflt k_is
      case hcd => k_dflt k_is
      case hbind => exact fun s _ => BindsTo.of_eq rfl
      case hok => decide +kernel
      intro c' hr' own' hz'
      change ExL _ c' _ _ _ _
      w_strict walk
      rename_i I o ho c2 D hr2 hcl2
      refine CoE.overStr (fun a y => ∃ t, y = .int (a : Int) t) ho z1 (by decide +kernel) ?_ ?_
      · intro a u n₂ Q hm hQ
        w_strict walk
        exact hQ _ ⟨_, rfl⟩
      intro l' outs m hall
      w_strict walk
      exact RetK.ints h (by walk_at "k_sel") hall.ints
    · skip
      refine' W.callDef (binds := [(Str.ofString "value", .str x tx), (Str.ofString "collation", .str (Str.ofString "nocase") t)]) (xs := [Str.ofString "value", Str.ofString "collation"]) ?ho ?hcd ?hbind rfl ?hok (by omega) ?_
      case ho => k_dflt k_is
      case hcd => k_dflt k_is
      case hbind => exact fun s _ => BindsTo.of_eq rfl
      case hok => decide +kernel
      intro c' hr' own' hz'
      change ExL _ c' _ _ _ _
      w_strict walk
      rename_i I o ho c2 D hr2 hcl2
      refine CoE.overStr (fun a y => ∃ t, y = .str ⟨#[foldC1 a]⟩ t) ho z1 (by decide +kernel) ?_ ?_
      · intro a u n₂ Q hm hQ
        have hc : a < 128 := chars_small a (texts_chars x hx a hm)
        w_strict walk
        · rename_i q
          exact hQ _ ⟨_, by rw [below_A q]⟩
        · rename_i q
          exact hQ _ ⟨_, by rw [above_Z q]⟩
        · rename_i q1 _ q2 _ _ _ _
          exact hQ _ ⟨_, by rw [A_to_Z q1 q2]⟩
      intro l' outs m hall
      w_strict walk
      refine CaV.joinE (z := foldS x) .head hall.strs (fold_sum x hx) (fold_is x hx) fun kk => ?_
      w_strict walk
      rename_i I' o' ho' c2' D' hr2' hcl2'
      refine CoE.overStr (fun a y => ∃ t, y = .int (a : Int) t) ho' z2 (by decide +kernel) ?_ ?_
      · intro a u n₂ Q hm hQ
        w_strict walk
        exact hQ _ ⟨_, rfl⟩
      intro l' outs m hall
      w_strict walk
      exact RetK.ints h (by walk_at "k_sel") hall.ints
    · skip
      refine' W.callDef (binds := [(Str.ofString "value", .str x tx), (Str.ofString "collation", .str (Str.ofString "rtrim") t)]) (xs := [Str.ofString "value", Str.ofString "collation"]) ?ho ?hcd ?hbind rfl ?hok (by omega) ?_
      case ho => k_dflt k_is
      case hcd => k_dflt k_is
      case hbind => exact fun s _ => BindsTo.of_eq rfl
      case hok => decide +kernel
      intro c' hr' own' hz'
      change ExL _ c' _ _ _ _
      w_strict walk
      refine CaV.rstripE (z := rtrimS x) (rtrim_is x hx) xl fun kk => ?_
      w_strict walk
      rename_i I o ho c2 D hr2 hcl2
      refine CoE.overStr (fun a y => ∃ t, y = .int (a : Int) t) ho z3 (by decide +kernel) ?_ ?_
      · intro a u n₂ Q hm hQ
        w_strict walk
        exact hQ _ ⟨_, rfl⟩
      intro l' outs m hall
      w_strict walk
      exact RetK.ints h (by walk_at "k_sel") hall.ints
end
-- part NtQ
section
variable {pr : Program} {w : World} {K : Frag} {sc : Scope} {c : Cx pr w K sc} {l : Loc} {n : Led} {X : Exc}
section
variable {Q : Value → Loc → Led → Prop} {x y z : Str} {t u : Tok}
theorem CaV.lstripS (e : Txt.lstripChars x y = x) (hx : x.length ≤ sizeLine) (h : ∀ k, Q (.str x k) l n) : CaV (.builtin "str.lstrip") [.str x t, .str y u] c l n Q X := CaV.lstripE e hx h
theorem CaV.rstripS (e : Txt.rstripChars x y = x) (hx : x.length ≤ sizeLine) (h : ∀ k, Q (.str x k) l n) : CaV (.builtin "str.rstrip") [.str x t, .str y u] c l n Q X := CaV.rstripE e hx h
theorem signs_ok : ∀ d ∈ [Dat.str (Str.ofString "-"), Dat.str (Str.ofString "+")], kqdOk 8 d = true := by
  intro d hd
  simp only [List.mem_cons, List.not_mem_nil, or_false] at hd
  rcases hd with rfl | rfl <;> decide +kernel
open Classical in
theorem CmO.in_l {d : Addr} {xs : List Value} {k : Nat} {ds : List Dat} {r : Bool} (hd : Mm (d, listOf xs.toArray k) n) (Dd : DatAll n xs ds) (ok : ∀ d ∈ ds, kqdOk 8 d = true) (okx : kqdOk 8 (.str x) = true) (hr : r = true ↔ Dat.str x ∈ ds) (h : Q (.bool r) l n) :
    CmO .In (.str x t) (.ref d) c l n Q X := by
  intro s₀ s m z
  refine kqd_isIn z.N hd.mem rfl rfl Dd (fun _ h => h) (.str x t) (fun _ h => h) ok okx (by have := c.hu; rw [cLine_is]; omega) ?_
  refine z.end ?_
  rw [dec_of hr]; exact h
end
theorem CmO.in_signs {x : Str} {t t1 t2 : Tok} {d : Addr} {k : Nat} {r : Bool} {Q : Value → Loc → Led → Prop} (hm : Mm (d, listOf [.str (Str.ofString "-") t1, .str (Str.ofString "+") t2].toArray k) n) (he : (decide (x = Str.ofString "-") || decide (x = Str.ofString "+")) = r) (hs : kqdOk 8 (.str x) = true) (h : Q (.bool r) l n) :
    CmO .In (.str x t) (.ref d) c l n Q X := by
  refine CmO.in_l (r := r) hm (.cons (.str _ _) (.cons (.str _ _) .nil)) signs_ok hs ?_ h
  simp only [List.mem_cons, List.not_mem_nil, or_false, Dat.str.injEq]
  rw [← he, Bool.or_eq_true, decide_eq_true_iff, decide_eq_true_iff]
/-- a written tuple unpacked into as many names: the stores go backwards -/
def UnT (names : List Str) (v : Value) (c : Cx pr w K sc) (l : Loc) (n : Led) (Q : Unit → Loc → Led → Prop) (X : Exc) : Prop :=
  ∀ s₀ s m, At c s₀ s m l n → wpAny (model pr w) c.A (unpackItems v names.length Option.none) (fun items s₂ => wpAny (model pr w) c.A (assignInOrder (names.reverse.map fun n => bindName c.env n) items.reverse) (fun a s' => End c s₀ (Q a) s') (X s₀) s₂) (X s₀) s
theorem UnT.of {names : List Str} {vs : List Value} {d : Addr} {Q : Unit → Loc → Led → Prop} (hm : Mm (d, tupOf vs) n) (hn : names.length = vs.length) (h : W (assignInOrder (names.reverse.map fun n => bindName c.env n) vs.reverse) c l n Q X) : UnT names (.ref d) c l n Q X := by
  intro s₀ s m z
  rw [hn, show vs.length = vs.toArray.size from (List.size_toArray ..).symm]
  refine unpackItems_tuple c.hh (z.isT hm) fun h' he => ?_
  have z' := z.ext (t := s.toks) (h' := h') fun b o e => he b o (Nat.ne_of_lt (Heap.lt_size e)) e
  exact h s₀ _ m z'
theorem AsO.consB {x : Str} {ts : List (Value → Sem Unit)} {v : Value} {vs : List Value} {Q : Unit → Loc → Led → Prop} (h : StN x v c l n (fun _ l n => W (assignInOrder ts vs) c l n Q X) X) : W (assignInOrder ((fun v => bindName c.env x v) :: ts) (v :: vs)) c l n Q X :=
  fun s₀ s m z => assignInOrder_cons (bindName_ (W.use h z fun _ _ _ _ _ z₁ h₁ => h₁ _ _ _ z₁))
theorem UnT.two {x y : Str} {a b : Value} {d : Addr} {Q : Unit → Loc → Led → Prop} (hm : Mm (d, tupOf [a, b]) n) (h : StN y b c l n (fun _ l n => StN x a c l n Q X) X) : UnT [x, y] (.ref d) c l n Q X :=
  UnT.of hm rfl (AsO.consB (W.mono h (fun _ l n h => AsO.consB (W.mono h (fun _ l n h => AsO.nil h) fun _ _ _ e => e)) fun _ _ _ e => e))
theorem UnT.three {x y y' : Str} {a b b' : Value} {d : Addr} {Q : Unit → Loc → Led → Prop} (hm : Mm (d, tupOf [a, b, b']) n) (h : StN y' b' c l n (fun _ l n => StN y b c l n (fun _ l n => StN x a c l n Q X) X) X) : UnT [x, y, y'] (.ref d) c l n Q X :=
  UnT.of hm rfl (AsO.consB (W.mono h (fun _ l n h => AsO.consB (W.mono h (fun _ l n h => AsO.consB (W.mono h (fun _ l n h => AsO.nil h) fun _ _ _ e => e)) fun _ _ _ e => e)) fun _ _ _ e => e))
theorem ExS.asgTS {es : List Expr} {k : Nat} {p' : Pos} {e : Expr} {pos : Pos} {names : List Str} {Q : Flow → Loc → Led → Prop} (hs : swapsWithSole [.Tuple es k p'] e pos.line c.env = pure false) (hw : swappedStores [.Tuple es k p'] e c.env = pure (some names))
    (h : EvE e c l n (fun v l n => UnT names v c l n (fun _ => Q .next) X) X) : ExS (.Assign [.Tuple es k p'] e pos) c l n Q X :=
  fun s₀ s m z => Assign_Tuple_swapped (W.use h z fun v _ _ _ _ z₁ h₁ => h₁ _ _ _ z₁) hs hw
theorem ExS.asgTS2 {x y : Str} {p1 p2 p3 p' pos : Pos} {k k2 : Nat} {a b : Expr} {Q : Flow → Loc → Led → Prop} (hs : swapsWithSole [.Tuple [.Name x p1, .Name y p2] k p'] (.Tuple [a, b] k2 p3) pos.line c.env = pure false)
    (hw : swappedStores [.Tuple [.Name x p1, .Name y p2] k p'] (.Tuple [a, b] k2 p3) c.env = pure (some [x, y])) (h : EvE (.Tuple [a, b] k2 p3) c l n (fun v l n => UnT [x, y] v c l n (fun _ => Q .next) X) X) :
    ExS (.Assign [.Tuple [.Name x p1, .Name y p2] k p'] (.Tuple [a, b] k2 p3) pos) c l n Q X := ExS.asgTS hs hw h
theorem ExS.asgTS3 {x y z : Str} {p1 p2 p3 p4 p' pos : Pos} {k k2 : Nat} {a b d : Expr} {Q : Flow → Loc → Led → Prop} (hs : swapsWithSole [.Tuple [.Name x p1, .Name y p2, .Name z p4] k p'] (.Tuple [a, b, d] k2 p3) pos.line c.env = pure false)
    (hw : swappedStores [.Tuple [.Name x p1, .Name y p2, .Name z p4] k p'] (.Tuple [a, b, d] k2 p3) c.env = pure (some [x, y, z])) (h : EvE (.Tuple [a, b, d] k2 p3) c l n (fun v l n => UnT [x, y, z] v c l n (fun _ => Q .next) X) X) :
    ExS (.Assign [.Tuple [.Name x p1, .Name y p2, .Name z p4] k p'] (.Tuple [a, b, d] k2 p3) pos) c l n Q X := ExS.asgTS hs hw h
theorem Tru.list0 {Q : Bool → Loc → Led → Prop} {d : Addr} {k : Nat} (hm : Mm (d, listOf #[] k) n) (h : Q false l n) : Tru (.ref d) c l n Q X := Tru.list hm (by rw [sizeLine_eq]; decide) h
theorem Tru.list1 {Q : Bool → Loc → Led → Prop} {d : Addr} {v : Value} {r : List Value} {k : Nat} (hm : Mm (d, listOf (v :: r).toArray k) n) (hz : (v :: r).toArray.size ≤ sizeLine) (h : Q true l n) : Tru (.ref d) c l n Q X := Tru.list hm hz h
theorem brK_bt {A B : Loc → Led → Prop} {a b : Int} (e : a = b) (h : A l n) : brK A B (a == b) l n := brK_t (beq_iff_eq.mpr e) h
theorem brK_bf {A B : Loc → Led → Prop} {a b : Int} (e : a ≠ b) (h : B l n) : brK A B (a == b) l n := brK_f (beq_eq_false_iff_ne.mpr e) h
end
local macro_rules | `(tactic| walk_at "ExS Assign") => `(tactic| first
  | (with_reducible refine' ExS.asgTS2 ?hs ?hw ?_; (case hs => with_unfolding_all rfl); (case hw => kernel_rfl))
  | (with_reducible refine' ExS.asgTS3 ?hs ?hw ?_; (case hs => with_unfolding_all rfl); (case hw => kernel_rfl)))
local macro_rules | `(tactic| walk_at "UnT") => `(tactic| first | (refine' UnT.two ?hm ?_; (case hm => k_mem)) | (refine' UnT.three ?hm ?_; (case hm => k_mem)))
local macro_rules | `(tactic| walk_at "brK") => `(tactic| first | refine brK_bt (by omega) ?_ | refine brK_bf (by omega) ?_)
local macro_rules | `(tactic| walk_at "GtA ref") => `(tactic| (refine' GtA.own ?hx ?hd ?hg ?hh ?ha ?hn ?hl ?hv ?_; (case hx => k_mem); (case hd => k_mem); (case hg => k_dflt k_is); (case hh => k_dflt k_is); (case ha => k_dflt k_is); (case hn => k_dflt k_is); (case hl => k_get); (case hv => first | assumption | k_handed)))
local macro_rules | `(tactic| walk_at "Tru ref") => `(tactic| first
  | (refine' Tru.list0 ?hm ?_; (case hm => k_mem))
  | (refine' Tru.list1 ?hm ?hz ?_; (case hm => k_mem); (case hz => first | assumption | exact Nat.le_of_ble_eq_true (by with_unfolding_all rfl))))
local macro_rules | `(tactic| walk_at "CmO In str ref") => `(tactic| first
  | (refine' CmO.in_signs (r := false) ?hm ?he ?hs ?_; (case hm => k_mem); (case he => decide +kernel); (case hs => decide +kernel))
  | (refine' CmO.in_signs (r := true) ?hm ?he ?hs ?_; (case hm => k_mem); (case he => decide +kernel); (case hs => decide +kernel)))
-- part C8
section
variable {w : World} {sc : Scope} {c : Cx prg w (Mine.heap w.params) sc} {l : Loc} {n : Led} {X : Exc}
theorem ltr_in : ∀ x ∈ ltrs, Txt.lstripChars x (Str.ofString " ") = x ∧ (decide (Txt.slice x none (some 1) = Str.ofString "-") || decide (Txt.slice x none (some 1) = Str.ofString "+")) = false ∧ kqdOk 8 (.str (Txt.slice x none (some 1))) = true := by decide +kernel
theorem ltr_first : ∀ x ∈ ltrs, ∃ a ∈ ([97, 65, 66, 98, 65533] : List Nat), x.cps[0]? = some a ∧ (!(Builtin.Str.occurrences (Str.ofString "0123456789") ⟨#[a]⟩ 0 (Str.ofString "0123456789").length 1).isEmpty) = false := by decide +kernel
local macro_rules | `(tactic| walk_at "CaV builtin:str.lstrip") => `(tactic| first
  | (refine' CaV.lstripS ?he ?hz ?_; (case he => decide +kernel); (case hz => decide); intro _)
  | (refine' CaV.lstripE (z := ⟨#[45, 49, 50, 120]⟩) ?he ?hz ?_; (case he => decide +kernel); (case hz => decide); intro _))
local macro_rules | `(tactic| walk_at "SlT str int none") => `(tactic| (refine' SlT.str_snE (z := ⟨#[49, 50, 120]⟩) ?he ?hz ?_ ?hs ?ht; (case he => decide +kernel); (case hz => decide); (case hs => walk_at "u"); (case ht => walk_at "u"); intro _))
local macro_rules | `(tactic| walk_at "CaV builtin:str.join") => `(tactic| first
  | (refine' CaV.joinE (z := ⟨#[]⟩) ?hm ?hs ?hz ?he ?_; (case hm => k_mem); (case hs => repeat constructor); (case hz => decide); (case he => decide +kernel); intro _)
  | (refine' CaV.joinE (z := ⟨#[49]⟩) ?hm ?hs ?hz ?he ?_; (case hm => k_mem); (case hs => repeat constructor); (case hz => decide); (case he => decide +kernel); intro _)
  | (refine' CaV.joinE (z := ⟨#[97, 0]⟩) ?hm ?hs ?hz ?he ?_; (case hm => k_mem); (case hs => repeat constructor); (case hz => decide); (case he => decide +kernel); intro _)
  | (refine' CaV.joinE (z := ⟨#[255]⟩) ?hm ?hs ?hz ?he ?_; (case hm => k_mem); (case hs => repeat constructor); (case hz => decide); (case he => decide +kernel); intro _))
local macro_rules | `(tactic| walk_at "CaV type:int") => `(tactic| first
  | (refine' CaV.int_digit (a := 7) ?ha ?_; (case ha => decide); intro _)
  | (refine' CaV.int_digit (a := 9) ?ha ?_; (case ha => decide); intro _)
  | (refine' CaV.int_digit (a := 1) ?ha ?_; (case ha => decide); intro _)
  | (refine' CaV.int_digit (a := 2) ?ha ?_; (case ha => decide); intro _))
local macro_rules | `(tactic| walk_at "brK") => `(tactic| first | refine brK_f (by assumption) ?_ | refine brK_t (by assumption) ?_)
theorem number_ok {Q : Value → Loc → Led → Prop} {v : Value} (hv : Okv v) (hne : v ≠ .none) (hr : 1 ≤ c.room) (h : ∀ t, Q (.int (num v) t) l n) : CaV (.ref 252) [v] c l n Q X := by
  cases hv with
  | none => exact absurd rfl hne
  | @int i t h1 h2 =>
    refine' W.callDef (binds := [(Str.ofString "value", .int i t)]) (xs := [Str.ofString "value"]) ?ho ?hcd ?hbind rfl ?hok (by omega) ?_
    case ho => k_dflt k_is
    case hcd => k_dflt k_is
    case hbind => exact fun s _ => BindsTo.of_eq rfl
    case hok => decide +kernel
    intro c' hr' own' hz'
    change ExL _ c' _ _ _ _
    w_strict walk
    exact RetK.of (h _) Sel.refl
  | @str x t hx =>
    refine' W.callDef (binds := [(Str.ofString "value", .str x t)]) (xs := [Str.ofString "value"]) ?ho ?hcd ?hbind rfl ?hok (by omega) ?_
    case ho => k_dflt k_is
    case hcd => k_dflt k_is
    case hbind => exact fun s _ => BindsTo.of_eq rfl
    case hok => decide +kernel
    intro c' hr' own' hz'
    change ExL _ c' _ _ _ _
    have as1 := texts_ascii x hx
    rcases texts_split x hx with rfl | hl | rfl | rfl | rfl
    · w_strict walk
      refine FoE.of 6 ?_
      w_strict walk
      exact RetK.int (by show _ = numS _; decide +kernel) (h _) (by walk_at "k_sel")
    · skip
      have l2 : x.length ≤ sizeLine := by have := (ltr_len x hl).2; rw [sizeLine_eq]; omega
      obtain ⟨e1, e2, e3⟩ := ltr_in x hl
      obtain ⟨a, _, h0, hd⟩ := ltr_first x hl
      have hd' : (!(!(Builtin.Str.occurrences (Str.ofString "0123456789") ⟨#[a]⟩ 0 (Str.ofString "0123456789").length 1).isEmpty)) = true := by rw [hd]; rfl
      w_strict walk
      refine CaV.lstripS e1 l2 fun _ => ?_
      w_strict walk
      refine CmO.in_signs (r := false) .head e2 e3 ?_
      w_strict walk
      refine FoE.of 2 (FoL.turn ?_)
      refine NxT.str_item (by k_upd) (by with_reducible assumption) h0 fun o' u ho' => nextK_some ?_
      w_strict walk
      exact RetK.int (by show _ = numS x; rw [ltr_num x hl]; rfl) (h _) (by walk_at "k_sel")
    all_goals (w_strict walk)
    all_goals (refine FoE.of 6 ?_)
    all_goals (w_strict walk)
    all_goals exact RetK.int (by show _ = numS _; decide +kernel) (h _) (by walk_at "k_sel")
  | @bytes x t hx =>
    refine' W.callDef (binds := [(Str.ofString "value", .bytes x.toArray t)]) (xs := [Str.ofString "value"]) ?ho ?hcd ?hbind rfl ?hok (by omega) ?_
    case ho => k_dflt k_is
    case hcd => k_dflt k_is
    case hbind => exact fun s _ => BindsTo.of_eq rfl
    case hok => decide +kernel
    intro c' hr' own' hz'
    change ExL _ c' _ _ _ _
    simp only [blobs, List.mem_cons, List.not_mem_nil, or_false] at hx
    rcases hx with rfl | rfl | rfl | rfl
    all_goals (w_strict walk)
    all_goals (refine CoE.of 6 ?_)
    all_goals (w_strict walk)
    all_goals (refine FoE.of 6 ?_)
    all_goals (w_strict walk)
    all_goals exact RetK.int (by show _ = numB _; decide +kernel) (h _) (by walk_at "k_sel")
end
-- part C9
section
variable {w : World} {sc : Scope} {c : Cx prg w (Mine.heap w.params) sc} {l : Loc} {n : Led} {X : Exc}
theorem UnO.not_b {Q : Value → Loc → Led → Prop} {v : Value} (h : Tru v c l n (fun b l n => Q (.bool (!b)) l n) X) : UnO .Not v c l n Q X :=
  fun s₀ s m z => not_of (W.use h z fun _ _ _ _ _ z₁ h₁ => z₁.end h₁)
end
local macro_rules | `(tactic| walk_at "UnO Not") => `(tactic| refine UnO.not_b ?_)
section
variable {w : World} {sc : Scope} {c : Cx prg w (Mine.heap w.params) sc} {l : Loc} {n : Led} {X : Exc}
theorem Okv.isNone {v : Value} (h : Okv v) (hne : v ≠ .none) : (v == .none) = false := by cases h <;> first | exact absurd rfl hne | rfl
theorem less_ok {Q : Value → Loc → Led → Prop} {a b : Value} {k : Str} {t : Tok} (ha : Okv a) (hb : Okv b) (na : a ≠ .none) (nb : b ≠ .none) (hk : k ∈ colls) (hr : 2 ≤ c.room) (h : Q (.bool (lessV k a b)) l n) : CaV (.ref 240) [a, b, .str k t] c l n Q X := by
  refine' W.callDef (binds := [(Str.ofString "one", a), (Str.ofString "other", b), (Str.ofString "collation", .str k t)]) (xs := [Str.ofString "one", Str.ofString "other", Str.ofString "collation"]) ?ho ?hcd ?hbind rfl ?hok (by omega) ?_
  case ho => k_dflt k_is
  case hcd => k_dflt k_is
  case hbind => exact fun s _ => BindsTo.of_eq rfl
  case hok => decide +kernel
  intro c' hr' own' hz'
  change ExL _ c' _ _ _ _
  w_strict walk
  refine class_ok ha (by omega) fun t => ?_
  w_strict walk
  refine class_ok hb (by omega) fun t => ?_
  w_strict walk
  · rename_i q
    refine class_ok ha (by omega) fun t => ?_
    w_strict walk
    refine class_ok hb (by omega) fun t => ?_
    w_strict walk
    have q : rank a ≠ rank b := by simpa using q
    have e : lessV k a b = decide (rank a < rank b) := decide_eq_decide.mpr (key_lt_other q)
    rw [e] at h
    exact RetK.of h Sel.refl
  · rename_i q
    refine points_ok ha na hk (by omega) fun d vs m hi => ?_
    w_strict walk
    refine points_ok hb nb hk (by omega) fun d' vs' m' hi' => ?_
    w_strict walk
    have q : rank a = rank b := by simpa using q
    have e : lessV k a b = decide (pts k a < pts k b) := decide_eq_decide.mpr (key_lt_same q)
    rw [e] at h
    exact RetK.of h (by walk_at "k_sel")
theorem alike_ok {Q : Value → Loc → Led → Prop} {a b : Value} {k : Str} {t : Tok} (ha : Okv a) (hb : Okv b) (hk : k ∈ colls) (hr : 3 ≤ c.room) (h : Q (.bool (alikeV k a b)) l n) : CaV (.ref 273) [a, b, .str k t] c l n Q X := by
  refine' W.callDef (binds := [(Str.ofString "one", a), (Str.ofString "other", b), (Str.ofString "collation", .str k t)]) (xs := [Str.ofString "one", Str.ofString "other", Str.ofString "collation"]) ?ho ?hcd ?hbind rfl ?hok (by omega) ?_
  case ho => k_dflt k_is
  case hcd => k_dflt k_is
  case hbind => exact fun s _ => BindsTo.of_eq rfl
  case hok => decide +kernel
  intro c' hr' own' hz'
  change ExL _ c' _ _ _ _
  by_cases na : a = .none
  · subst na
    by_cases nb : b = .none
    · subst nb
      w_strict walk
      exact RetK.of h Sel.refl
    · skip
      have qb := hb.isNone nb
      w_strict walk
      have e : alikeV k .none b = false := by unfold alikeV; rw [qb]; rfl
      rw [e] at h
      exact RetK.of h Sel.refl
  · skip
    have qa := ha.isNone na
    by_cases nb : b = .none
    · subst nb
      w_strict walk
      have e : alikeV k a .none = false := by unfold alikeV; rw [qa]; rfl
      rw [e] at h
      exact RetK.of h Sel.refl
    · skip
      have qb := hb.isNone nb
      have e : alikeV k a b = (!lessV k a b && !lessV k b a) := by unfold alikeV; rw [qa, qb]; rfl
      rw [e] at h
      w_strict walk
      refine less_ok ha hb na nb hk (by omega) ?_
      cases q : lessV k a b with
      | true =>
        rw [q] at h
        w_strict walk
        exact RetK.of h Sel.refl
      | false =>
        rw [q] at h
        w_strict walk
        refine less_ok hb ha nb na hk (by omega) ?_
        w_strict walk
        exact RetK.of h Sel.refl
end
-- part C10
section
variable {w : World} {sc : Scope} {c : Cx prg w (Mine.heap w.params) sc} {l : Loc} {n : Led} {X : Exc}
abbrev agD (w : World) (t1 t2 t3 t4 t5 t6 : Tok) (word coll many best summed : Value) (pc : Addr) : Obj :=
  dictOf [⟨PyData.keyHash w.params (Str.ofString "word"), .str (Str.ofString "word") t1, word⟩, ⟨PyData.keyHash w.params (Str.ofString "collation"), .str (Str.ofString "collation") t2, coll⟩,
    ⟨PyData.keyHash w.params (Str.ofString "many"), .str (Str.ofString "many") t3, many⟩, ⟨PyData.keyHash w.params (Str.ofString "best"), .str (Str.ofString "best") t4, best⟩,
    ⟨PyData.keyHash w.params (Str.ofString "summed"), .str (Str.ofString "summed") t5, summed⟩, ⟨PyData.keyHash w.params (Str.ofString "pieces"), .str (Str.ofString "pieces") t6, .ref pc⟩] 6
local macro_rules | `(tactic| walk_at "CaV builtin:str.lower") => `(tactic| (refine' CaV.lower ?he ?hz ?_; (case he => assumption); (case hz => assumption); intro _))
theorem agg_init {Q : Value → Loc → Led → Prop} {nm low k : Str} {t u : Tok} (hl : Txt.lower nm = low) (hz : Builtin.Str.tooLong (Txt.lower nm).length = false) (hr : 2 ≤ c.room)
    (h : ∀ x dx pc t1 t2 t3 t4 t5 t6 tw tm ts, Q (.ref x) l ((pc, listOf #[] 0) :: (x, instObj 189 dx) :: (dx, agD w t1 t2 t3 t4 t5 t6 (.str low tw) (.str k u) (.int 0 tm) .none (.int 0 ts) pc) :: n)) : CaV (.ref 189) [.str nm t, .str k u] c l n Q X := by
  refine' CaV.cls ?hm ?hi ?hf (by omega) ?_
  case hm => k_dflt k_is
  case hi => k_dflt k_is
  case hf => k_dflt k_is
  intro x dx
  refine' W.codeDefX (cls := .none) (ok := False) (binds := [(Str.ofString "self", .ref x), (Str.ofString "name", .str nm t), (Str.ofString "collation", .str k u)]) (xs := [Str.ofString "self", Str.ofString "name", Str.ofString "collation"]) ?ho ?hcd ?hbind rfl ?hok ?hroom ?_ ?hX
  case ho => k_dflt k_is
  case hcd => k_dflt k_is
  case hbind => exact fun s _ => BindsTo.of_eq rfl
  case hok => decide +kernel
  case hroom => show 1 ≤ c.room - 1; omega
  case hX => exact fun f => f.elim
  intro c' hr' own' hz'
  refine W.quiet ?_
  change ExL _ c' _ _ _ _
  w_strict walk
  exact RetK.of ⟨rfl, h x dx _ _ _ _ _ _ _ _ _ _⟩ Sel.refl
structure AgS where
  m : Int
  best : Value
  s : Int
  ps : List Str
/-- the aggregate's objects at the head of the ledger -/
def AgI (w : World) (x dx pc : Addr) (word k : Str) (st : AgS) (n n' : Led) : Prop :=
  ∃ t1 t2 t3 t4 t5 t6 tw tk tm ts ps kp, StrsAre ps st.ps ∧ n' = (pc, listOf ps.toArray kp) :: (x, instObj 189 dx) :: (dx, agD w t1 t2 t3 t4 t5 t6 (.str word tw) (.str k tk) (.int st.m tm) st.best (.int st.s ts) pc) :: n
theorem agg_new {Q : Value → Loc → Led → Prop} {nm low k : Str} {t u : Tok} (hl : Txt.lower nm = low) (hz : Builtin.Str.tooLong (Txt.lower nm).length = false) (hr : 2 ≤ c.room)
    (h : ∀ x dx pc n', AgI w x dx pc low k ⟨0, .none, 0, []⟩ n n' → Q (.ref x) l n') : CaV (.ref 189) [.str nm t, .str k u] c l n Q X :=
  agg_init hl hz hr fun x dx pc t1 t2 t3 t4 t5 t6 tw tm ts => h x dx pc _ ⟨t1, t2, t3, t4, t5, t6, tw, u, tm, ts, [], 0, .nil, rfl⟩
theorem Okv.handed {v : Value} (h : Okv v) : handedIn v = true := by cases h <;> rfl
theorem none_of {v : Value} (h : v ≠ .none) : (v == Value.none) = false := by cases v <;> first | exact absurd rfl h | rfl
theorem step_count0 {Q : Value → Loc → Led → Prop} {x dx pc row : Addr} {k : Str} {st : AgS} {kr : Nat} {n' : Led} (hI : AgI w x dx pc (Str.ofString "count") k st n n') (hrow : Mm (row, listOf ([] : List Value).toArray kr) n) (hr : 1 ≤ c.room)
    (h : ∀ n', AgI w x dx pc (Str.ofString "count") k { st with m := st.m + 1 } n n' → Q .none l n') : CaV (.ref 179) [.ref x, .ref row] c l n' Q X := by
  obtain ⟨t1, t2, t3, t4, t5, t6, tw, tk, tm, ts, ps, kp, hps, rfl⟩ := hI
  refine' W.callDef (binds := [(Str.ofString "self", .ref x), (Str.ofString "arguments", .ref row)]) (xs := [Str.ofString "self", Str.ofString "arguments"]) ?ho ?hcd ?hbind rfl ?hok (by omega) ?_
  case ho => k_dflt k_is
  case hcd => k_dflt k_is
  case hbind => exact fun s _ => BindsTo.of_eq rfl
  case hok => decide +kernel
  intro c' hr' own' hz'
  change ExL _ c' _ _ _ _
  w_strict walk
  exact RetK.of (h _ ⟨_, _, _, _, _, _, _, _, _, _, _, _, hps, rfl⟩) Sel.refl
theorem step_count1 {Q : Value → Loc → Led → Prop} {x dx pc row : Addr} {k : Str} {st : AgS} {kr : Nat} {v : Value} {n' : Led} (hv : v ≠ .none) (hI : AgI w x dx pc (Str.ofString "count") k st n n') (hrow : Mm (row, listOf [v].toArray kr) n) (hr : 1 ≤ c.room)
    (h : ∀ n', AgI w x dx pc (Str.ofString "count") k { st with m := st.m + 1 } n n' → Q .none l n') : CaV (.ref 179) [.ref x, .ref row] c l n' Q X := by
  obtain ⟨t1, t2, t3, t4, t5, t6, tw, tk, tm, ts, ps, kp, hps, rfl⟩ := hI
  refine' W.callDef (binds := [(Str.ofString "self", .ref x), (Str.ofString "arguments", .ref row)]) (xs := [Str.ofString "self", Str.ofString "arguments"]) ?ho ?hcd ?hbind rfl ?hok (by omega) ?_
  case ho => k_dflt k_is
  case hcd => k_dflt k_is
  case hbind => exact fun s _ => BindsTo.of_eq rfl
  case hok => decide +kernel
  intro c' hr' own' hz'
  change ExL _ c' _ _ _ _
  have q := none_of hv
  w_strict walk
  exact RetK.of (h _ ⟨_, _, _, _, _, _, _, _, _, _, _, _, hps, rfl⟩) Sel.refl
local macro_rules | `(tactic| walk_at "brK") => `(tactic| first | refine brK_f (by assumption) ?_ | refine brK_t (by assumption) ?_)
theorem step_none {Q : Value → Loc → Led → Prop} {x dx pc row : Addr} {k word : Str} {st : AgS} {kr : Nat} {r : List Value} {n' : Led} (hw : word ∈ [Str.ofString "count", Str.ofString "sum", Str.ofString "total", Str.ofString "min", Str.ofString "max", Str.ofString "group_concat"])
    (hI : AgI w x dx pc word k st n n') (hrow : Mm (row, listOf (.none :: r).toArray kr) n) (hr : 1 ≤ c.room) (hz : (.none :: r : List Value).toArray.size ≤ sizeLine)
    (h : ∀ n', AgI w x dx pc word k st n n' → Q .none l n') : CaV (.ref 179) [.ref x, .ref row] c l n' Q X := by
  obtain ⟨t1, t2, t3, t4, t5, t6, tw, tk, tm, ts, ps, kp, hps, rfl⟩ := hI
  refine' W.callDef (binds := [(Str.ofString "self", .ref x), (Str.ofString "arguments", .ref row)]) (xs := [Str.ofString "self", Str.ofString "arguments"]) ?ho ?hcd ?hbind rfl ?hok (by omega) ?_
  case ho => k_dflt k_is
  case hcd => k_dflt k_is
  case hbind => exact fun s _ => BindsTo.of_eq rfl
  case hok => decide +kernel
  intro c' hr' own' hz'
  change ExL _ c' _ _ _ _
  have hc : word = Str.ofString "count" ∨ (word.cps.toList == (Str.ofString "count").cps.toList) = false := by
    have key : ∀ y ∈ [Str.ofString "count", Str.ofString "sum", Str.ofString "total", Str.ofString "min", Str.ofString "max", Str.ofString "group_concat"], y = Str.ofString "count" ∨ (y.cps.toList == (Str.ofString "count").cps.toList) = false := by decide +kernel
    exact key word hw
  clear hw
  rcases hc with rfl | hc
  all_goals (w_strict walk)
  all_goals exact RetK.of (h _ ⟨_, _, _, _, _, _, _, _, _, _, _, _, hps, rfl⟩) Sel.refl
theorem step_sum {Q : Value → Loc → Led → Prop} {x dx pc row : Addr} {k word : Str} {st : AgS} {kr : Nat} {v : Value} {n' : Led} (hw : word ∈ [Str.ofString "sum", Str.ofString "total"]) (hv : v ≠ .none) (ov : Okv v) (hI : AgI w x dx pc word k st n n') (hrow : Mm (row, listOf [v].toArray kr) n) (hr : 5 ≤ c.room)
    (h : ∀ n', AgI w x dx pc word k { st with m := st.m + 1, s := st.s + num v } n n' → Q .none l n') : CaV (.ref 179) [.ref x, .ref row] c l n' Q X := by
  obtain ⟨t1, t2, t3, t4, t5, t6, tw, tk, tm, ts, ps, kp, hps, rfl⟩ := hI
  refine' W.callDef (binds := [(Str.ofString "self", .ref x), (Str.ofString "arguments", .ref row)]) (xs := [Str.ofString "self", Str.ofString "arguments"]) ?ho ?hcd ?hbind rfl ?hok (by omega) ?_
  case ho => k_dflt k_is
  case hcd => k_dflt k_is
  case hbind => exact fun s _ => BindsTo.of_eq rfl
  case hok => decide +kernel
  intro c' hr' own' hz'
  change ExL _ c' _ _ _ _
  have q := none_of hv
  simp only [List.mem_cons, List.not_mem_nil, or_false] at hw
  rcases hw with rfl | rfl
  all_goals (w_strict walk)
  all_goals (refine as_integer_ok ov hv (by omega) fun t => ?_)
  all_goals (w_strict walk)
  all_goals exact RetK.of (h _ ⟨_, _, _, _, _, _, _, _, _, _, _, _, hps, rfl⟩) Sel.refl
theorem step_first {Q : Value → Loc → Led → Prop} {x dx pc row : Addr} {k word : Str} {st : AgS} {kr : Nat} {v : Value} {n' : Led} (hw : word ∈ [Str.ofString "min", Str.ofString "max"]) (hv : v ≠ .none) (hm : st.m = 0) (hI : AgI w x dx pc word k st n n') (hrow : Mm (row, listOf [v].toArray kr) n) (hr : 6 ≤ c.room)
    (h : ∀ n', AgI w x dx pc word k { st with m := st.m + 1, best := v } n n' → Q .none l n') : CaV (.ref 179) [.ref x, .ref row] c l n' Q X := by
  obtain ⟨t1, t2, t3, t4, t5, t6, tw, tk, tm, ts, ps, kp, hps, rfl⟩ := hI
  refine' W.callDef (binds := [(Str.ofString "self", .ref x), (Str.ofString "arguments", .ref row)]) (xs := [Str.ofString "self", Str.ofString "arguments"]) ?ho ?hcd ?hbind rfl ?hok (by omega) ?_
  case ho => k_dflt k_is
  case hcd => k_dflt k_is
  case hbind => exact fun s _ => BindsTo.of_eq rfl
  case hok => decide +kernel
  intro c' hr' own' hz'
  change ExL _ c' _ _ _ _
  have q := none_of hv
  simp only [List.mem_cons, List.not_mem_nil, or_false] at hw
  rcases hw with rfl | rfl
  all_goals (w_strict walk)
  all_goals (first | (exact RetK.of (h _ ⟨_, _, _, _, _, _, _, _, _, _, _, _, hps, rfl⟩) Sel.refl) | skip)
theorem step_more {Q : Value → Loc → Led → Prop} {x dx pc row : Addr} {k word : Str} {st : AgS} {kr : Nat} {v : Value} {n' : Led} (hw : word ∈ [Str.ofString "min", Str.ofString "max"]) (hv : v ≠ .none) (ov : Okv v) (hb : st.best ≠ .none) (ob : Okv st.best) (hk : k ∈ colls) (hm : 0 < st.m)
    (hI : AgI w x dx pc word k st n n') (hrow : Mm (row, listOf [v].toArray kr) n) (hr : 6 ≤ c.room)
    (h : ∀ n', AgI w x dx pc word k { st with m := st.m + 1, best := betterV k (if word = Str.ofString "max" then 1 else -1) v st.best } n n' → Q .none l n') : CaV (.ref 179) [.ref x, .ref row] c l n' Q X := by
  obtain ⟨t1, t2, t3, t4, t5, t6, tw, tk, tm, ts, ps, kp, hps, rfl⟩ := hI
  refine' W.callDef (binds := [(Str.ofString "self", .ref x), (Str.ofString "arguments", .ref row)]) (xs := [Str.ofString "self", Str.ofString "arguments"]) ?ho ?hcd ?hbind rfl ?hok (by omega) ?_
  case ho => k_dflt k_is
  case hcd => k_dflt k_is
  case hbind => exact fun s _ => BindsTo.of_eq rfl
  case hok => decide +kernel
  intro c' hr' own' hz'
  change ExL _ c' _ _ _ _
  have q := none_of hv
  have hh := ob.handed
  simp only [List.mem_cons, List.not_mem_nil, or_false] at hw
  rcases hw with rfl | rfl
  all_goals (w_strict walk)
  all_goals (refine better_ok ov ob hv hb hk (by omega) ?_)
  all_goals (w_strict walk)
  all_goals exact RetK.of (h _ ⟨_, _, _, _, _, _, _, _, _, _, _, _, hps, rfl⟩) Sel.refl
end
-- part C11
section
variable {w : World} {sc : Scope} {c : Cx prg w (Mine.heap w.params) sc} {l : Loc} {n : Led} {X : Exc}
theorem word_none : ∀ y ∈ [Str.ofString "sum", Str.ofString "min", Str.ofString "max", Str.ofString "group_concat"], (y.cps.toList == (Str.ofString "count").cps.toList) = false ∧ (y.cps.toList == (Str.ofString "total").cps.toList) = false := by decide +kernel
theorem word_best : ∀ y ∈ [Str.ofString "min", Str.ofString "max"], (y.cps.toList == (Str.ofString "count").cps.toList) = false ∧ (y.cps.toList == (Str.ofString "total").cps.toList) = false ∧ (y.cps.toList == (Str.ofString "sum").cps.toList) = false ∧ (y.cps.toList == (Str.ofString "group_concat").cps.toList) = false := by decide +kernel
local macro_rules | `(tactic| walk_at "brK") => `(tactic| first | refine brK_f (by assumption) ?_ | refine brK_t (by assumption) ?_)
theorem final_count {Q : Value → Loc → Led → Prop} {x dx pc : Addr} {k : Str} {st : AgS} {n' : Led} (hI : AgI w x dx pc (Str.ofString "count") k st n n') (hr : 1 ≤ c.room) (h : ∀ t, Q (.int st.m t) l n') : CaV (.ref 186) [.ref x] c l n' Q X := by
  obtain ⟨t1, t2, t3, t4, t5, t6, tw, tk, tm, ts, ps, kp, hps, rfl⟩ := hI
  refine' W.callDef (binds := [(Str.ofString "self", .ref x)]) (xs := [Str.ofString "self"]) ?ho ?hcd ?hbind rfl ?hok (by omega) ?_
  case ho => k_dflt k_is
  case hcd => k_dflt k_is
  case hbind => exact fun s _ => BindsTo.of_eq rfl
  case hok => decide +kernel
  intro c' hr' own' hz'
  change ExL _ c' _ _ _ _
  w_strict walk
  exact RetK.of (h _) Sel.refl
theorem final_total0 {Q : Value → Loc → Led → Prop} {x dx pc : Addr} {k : Str} {st : AgS} {n' : Led} (hm : st.m = 0) (hI : AgI w x dx pc (Str.ofString "total") k st n n') (hr : 1 ≤ c.room) (h : ∀ t, Q (.int 0 t) l n') : CaV (.ref 186) [.ref x] c l n' Q X := by
  obtain ⟨t1, t2, t3, t4, t5, t6, tw, tk, tm, ts, ps, kp, hps, rfl⟩ := hI
  refine' W.callDef (binds := [(Str.ofString "self", .ref x)]) (xs := [Str.ofString "self"]) ?ho ?hcd ?hbind rfl ?hok (by omega) ?_
  case ho => k_dflt k_is
  case hcd => k_dflt k_is
  case hbind => exact fun s _ => BindsTo.of_eq rfl
  case hok => decide +kernel
  intro c' hr' own' hz'
  change ExL _ c' _ _ _ _
  w_strict walk
  exact RetK.of (h _) Sel.refl
theorem final_none {Q : Value → Loc → Led → Prop} {x dx pc : Addr} {k word : Str} {st : AgS} {n' : Led} (hw : word ∈ [Str.ofString "sum", Str.ofString "min", Str.ofString "max", Str.ofString "group_concat"]) (hm : st.m = 0) (hI : AgI w x dx pc word k st n n') (hr : 1 ≤ c.room) (h : Q .none l n') : CaV (.ref 186) [.ref x] c l n' Q X := by
  obtain ⟨t1, t2, t3, t4, t5, t6, tw, tk, tm, ts, ps, kp, hps, rfl⟩ := hI
  refine' W.callDef (binds := [(Str.ofString "self", .ref x)]) (xs := [Str.ofString "self"]) ?ho ?hcd ?hbind rfl ?hok (by omega) ?_
  case ho => k_dflt k_is
  case hcd => k_dflt k_is
  case hbind => exact fun s _ => BindsTo.of_eq rfl
  case hok => decide +kernel
  intro c' hr' own' hz'
  change ExL _ c' _ _ _ _
  obtain ⟨q1, q2⟩ := word_none word hw
  clear hw
  w_strict walk
  exact RetK.of h Sel.refl
theorem final_sum {Q : Value → Loc → Led → Prop} {x dx pc : Addr} {k word : Str} {st : AgS} {n' : Led} (hw : word ∈ [Str.ofString "sum", Str.ofString "total"]) (hm : 0 < st.m) (h1 : -9223372036854775808 ≤ st.s) (h2 : st.s ≤ 9223372036854775807) (hI : AgI w x dx pc word k st n n') (hr : 1 ≤ c.room)
    (h : ∀ t, Q (.int st.s t) l n') : CaV (.ref 186) [.ref x] c l n' Q X := by
  obtain ⟨t1, t2, t3, t4, t5, t6, tw, tk, tm, ts, ps, kp, hps, rfl⟩ := hI
  refine' W.callDef (binds := [(Str.ofString "self", .ref x)]) (xs := [Str.ofString "self"]) ?ho ?hcd ?hbind rfl ?hok (by omega) ?_
  case ho => k_dflt k_is
  case hcd => k_dflt k_is
  case hbind => exact fun s _ => BindsTo.of_eq rfl
  case hok => decide +kernel
  intro c' hr' own' hz'
  change ExL _ c' _ _ _ _
  simp only [List.mem_cons, List.not_mem_nil, or_false] at hw
  rcases hw with rfl | rfl
  all_goals (w_strict walk)
  all_goals exact RetK.of (h _) Sel.refl
theorem final_best {Q : Value → Loc → Led → Prop} {x dx pc : Addr} {k word : Str} {st : AgS} {n' : Led} (hw : word ∈ [Str.ofString "min", Str.ofString "max"]) (hm : 0 < st.m) (ob : Okv st.best) (hI : AgI w x dx pc word k st n n') (hr : 1 ≤ c.room) (h : Q st.best l n') : CaV (.ref 186) [.ref x] c l n' Q X := by
  obtain ⟨t1, t2, t3, t4, t5, t6, tw, tk, tm, ts, ps, kp, hps, rfl⟩ := hI
  refine' W.callDef (binds := [(Str.ofString "self", .ref x)]) (xs := [Str.ofString "self"]) ?ho ?hcd ?hbind rfl ?hok (by omega) ?_
  case ho => k_dflt k_is
  case hcd => k_dflt k_is
  case hbind => exact fun s _ => BindsTo.of_eq rfl
  case hok => decide +kernel
  intro c' hr' own' hz'
  change ExL _ c' _ _ _ _
  have hh := ob.handed
  obtain ⟨q1, q2, q3, q4⟩ := word_best word hw
  clear hw
  w_strict walk
  exact RetK.of h Sel.refl
local macro_rules | `(tactic| walk_at "CaV builtin:str.join") => `(tactic| (refine' CaV.joinL ?hm ?hs ?hz ?_; (case hm => k_mem); (case hs => assumption); (case hz => first | assumption | (simp [Str.length]; done) | decide); intro _))
theorem final_concat {Q : Value → Loc → Led → Prop} {x dx pc : Addr} {k : Str} {st : AgS} {n' : Led} (hm : 0 < st.m) (hz : (st.ps.map (·.length)).sum + st.ps.length * (Str.ofString "").length ≤ 16777216) (hI : AgI w x dx pc (Str.ofString "group_concat") k st n n') (hr : 1 ≤ c.room) (h : ∀ t, Q (.str (Txt.join (Str.ofString "") st.ps) t) l n') : CaV (.ref 186) [.ref x] c l n' Q X := by
  obtain ⟨t1, t2, t3, t4, t5, t6, tw, tk, tm, ts, ps, kp, hps, rfl⟩ := hI
  refine' W.callDef (binds := [(Str.ofString "self", .ref x)]) (xs := [Str.ofString "self"]) ?ho ?hcd ?hbind rfl ?hok (by omega) ?_
  case ho => k_dflt k_is
  case hcd => k_dflt k_is
  case hbind => exact fun s _ => BindsTo.of_eq rfl
  case hok => decide +kernel
  intro c' hr' own' hz'
  change ExL _ c' _ _ _ _
  w_strict walk
  exact RetK.of (h _) Sel.refl
theorem exc_made {Q : Value → Loc → Led → Prop} {e t0 : Addr} {msg : Str} {t : Tok} (hr : 1 ≤ c.room) (h : ∀ dx, Q .none l ((e, excObj 44 t0 (some dx)) :: n)) : CaV (.ref 28) [.ref e, .str msg t] c l ((e, excObj 44 t0 none) :: n) Q X := by
  refine' W.callDef (binds := [(Str.ofString "self", .ref e), (Str.ofString "message", .str msg t)]) (xs := [Str.ofString "self", Str.ofString "message"]) ?ho ?hcd ?hbind rfl ?hok (by omega) ?_
  case ho => k_dflt k_is
  case hcd => k_dflt k_is
  case hbind => exact fun s _ => BindsTo.of_eq rfl
  case hok => decide +kernel
  intro c' hr' own' hz'
  change ExL _ c' _ _ _ _
  w_strict walk
  refine' StA.exc (P := 31) ?hp ?hcd ?hmro ?hdc ?ht ?hs ?_
  case hp => k_upd
  case hcd => k_dflt k_is
  case hmro => rfl
  case hdc => rfl
  case ht => k_dflt k_is
  case hs => k_dflt k_is
  intro dx
  w_strict walk
  exact RetK.of (h _) Sel.refl
theorem final_over {Q : Value → Loc → Led → Prop} {x dx pc : Addr} {k : Str} {st : AgS} {n' : Led} (hm : 0 < st.m) (hs : st.s < -9223372036854775808 ∨ 9223372036854775807 < st.s) (hI : AgI w x dx pc (Str.ofString "sum") k st n n') (hr : 3 ≤ c.room)
    (hX : ∀ s₀ e s, Raised c l n' (.ref 44) s₀ e s → X s₀ e s) : CaV (.ref 186) [.ref x] c l n' Q X := by
  obtain ⟨t1, t2, t3, t4, t5, t6, tw, tk, tm, ts, ps, kp, hps, rfl⟩ := hI
  refine' W.callDefX (cls := .ref 44) (ok := True) (binds := [(Str.ofString "self", .ref x)]) (xs := [Str.ofString "self"]) ?ho ?hcd ?hbind rfl ?hok (by omega) ?_ (fun _ => hX)
  case ho => k_dflt k_is
  case hcd => k_dflt k_is
  case hbind => exact fun s _ => BindsTo.of_eq rfl
  case hok => decide +kernel
  intro c' hr' own' hz'
  change ExL _ c' _ _ _ _
  rcases hs with hs | hs
  all_goals (w_strict walk)
  all_goals (
    refine' ExS.raise (C := 44) ?hC ?hbm ?_
    case hC => k_dflt k_is
    case hbm => decide +kernel
    w_strict walk
    refine' CaV.exc (cd := default) (P := 31) (fI := 28) ?hC ?hbm ?hi ?hf ?hfc (by omega) ?_
    case hC => k_dflt k_is
    case hbm => rfl
    case hi => k_dflt k_is
    case hf => k_dflt k_is
    case hfc => rfl
    intro e t
    refine exc_made (by show 1 ≤ c'.room - 1; omega) fun dx => ⟨rfl, e, t, some dx, _, rfl, rfl, fun s₀ s m z => ⟨trivial, Making.of z Sel.refl⟩⟩)
end
-- part NtR
section
variable {pr : Program} {w : World} {K : Frag} {sc : Scope} {c : Cx pr w K sc} {l : Loc} {n : Led} {X : Exc}
/-- a `try` whose one clause, of an own class, gives back the empty list -/
theorem ExS.tryNilIf {ok : Prop} {C : Addr} {body : List Stmt} {x : Str} {np p1 p2 pos hpos : Pos} {bm : List Value} {nm q : Str} {N : Addr} {bs : List Value} {hdct : Bool} {sn : List Str} {sub : List Value} {ab : Bool} {col : Option Bool} {dd : Option Addr} {k0 k1 k2 k3 k5 : Option Value} {newId : String} {Q : Flow → Loc → Led → Prop} {l₁ : Loc} {n₁ : Led}
    (hC : K.lookup C = some (excClassObj nm q C N bs bm hdct sn sub ab col dd k0 k1 k2 k3 k5 newId)) (hbm : bm.contains (.type "BaseException") = true) (own : c.Own)
    (hk : sc.names.lookup x = some .globalImplicit) (e : nsIn K mainGlobals x = some (some (.ref C))) (hd : (x == ("__debug__" : Str)) = false)
    (hQ : ok → ∀ a, Q (.ret (.ref a)) l₁ ((a, listOf #[] 0) :: n₁))
    (h : ExL body c l n Q (fun s₀ e s => ok ∧ Raised c l₁ n₁ (.ref C) s₀ e s)) : ExS (.Try body [.ExceptHandler (some (.Name x np)) none [.Return (some (.List [] p1)) p2] hpos] [] [] pos) c l n Q X := by
  intro s₀ s m z
  refine wpAny_Try_except (wpAny_mono (h s₀ s m z) (fun f s₁ ⟨m₁, l₁, n₁, z₁, q₁⟩ => ?_) fun ev s₁ hr => ?_)
  · cases f with
    | next => exact wpAny_execs_nil (z₁.end q₁)
    | brk => exact z₁.end q₁
    | cont => exact z₁.end q₁
    | ret v => exact z₁.end q₁
  · obtain ⟨hok, m, ea, B, a0, rfl, y, hB0, hBN, hBn, hfl⟩ := hr
    obtain ⟨hfr, outer, hfs⟩ := own
    rw [hfs] at hfl
    refine wpAny_looks_onW (env := c.env) (outer := outer) (L := c.L) (by rw [c.hA, hfs]) hfr hfl fun h₄ hheld₄ hsm₄ => ?_
    refine wpAny_landsW hheld₄ fun h₅ hheld hsm₅' => ?_
    have hsm₅ := hsm₄.trans hsm₅'
    obtain ⟨u₅, y₅⟩ := y.slots hB0 hBN hheld.1 hsm₅
    obtain ⟨ob, hob, hobc⟩ := hheld.there
    refine wpAny_handleBy_cons (codeAny_handlers_test (Name_function_global c.hk hk (loadGlobal_global (env := c.env) (c.T.g.keeps y₅.F.keep) (mg_of c.X c.T.g e) ?_) hd)) (by intro q; cases q)
    refine wpAny_excMatches_sub_self (y₅.inK _ _ hC) hob hobc hbm (codeAny_handlers_suite ?_)
    refine lands_againW hheld fun h₆ hfl₆ hsm₆ => ?_
    obtain ⟨u₆, y₆⟩ := y₅.slots hB0 hBN hfl₆.1 hsm₆
    refine wpAny_noRaise (wpAny_execs_cons (wpAny_Return_some (List_ (spliced_nil (newList_K y₆.F y₆.M (fun a h' F N hlt => ?_) (by decide))))))
    exact (y₆.new F N hlt).end (hQ hok a)
end
-- part C12
section
variable {w : World} {sc : Scope} {c : Cx prg w (Mine.heap w.params) sc} {l : Loc} {n : Led} {X : Exc}
/-- the same data, up to tokens -/
inductive SameD : Value → Value → Prop
  | none : SameD .none .none
  | int {i : Int} {t u : Tok} : SameD (.int i t) (.int i u)
  | str {x : Str} {t u : Tok} : SameD (.str x t) (.str x u)
  | bytes {x : Array UInt8} {t u : Tok} : SameD (.bytes x t) (.bytes x u)
theorem CmO.eq_same {v u : Value} {Q : Value → Loc → Led → Prop} (hs : SameD v u) (h : Q (.bool true) l n) : CmO .Eq v u c l n Q X := by
  cases hs with
  | none => exact CmO.eq_nn h
  | int => exact CmO.eq_ii (by rw [beq_self_eq_true]; exact h)
  | str => exact CmO.eq_ss (by rw [beq_self_eq_true]; exact h)
  | bytes => exact CmO.eq_bb (by rw [beq_self_eq_true]; exact h)
theorem SameD.eqAt {v u : Value} (hs : SameD v u) : ∀ A s, SeqAt.EqAt A s v u true := by
  intro A s
  cases hs with
  | none => exact SeqAt.EqAt.same _
  | @int i t u => have := SeqAt.EqAt.int_int (A := A) (s := s) i t i u; rwa [beq_self_eq_true] at this
  | @str x t u => have := SeqAt.EqAt.str_str (A := A) (s := s) x t x u; rwa [beq_self_eq_true] at this
  | @bytes x t u => exact fun prog w E Q hq => eqBool_bytes (by rw [decide_eq_true rfl]; exact hq)
/-- what the loop over the rows does, for one word -/
def Steps (w : World) (low k : Str) (rs : List Value) (n : Led) (Inv : List Value → AgS → Prop) : Prop :=
  ∀ (sc' : Scope) (c' : Cx prg w (Mine.heap w.params) sc') (x dx pc : Addr) (done : List Value) (v : Value) (rest : List Value) (st : AgS) (b n' : Led) (l' : Loc) (Q' : Value → Loc → Led → Prop) (X' : Exc),
    rs = done ++ v :: rest → Inv done st → 6 ≤ c'.room → (∀ p, Mm p n → Mm p b) → AgI w x dx pc low k st b n' → (∀ st' n'', Inv (done ++ [v]) st' → AgI w x dx pc low k st' b n'' → Q' .none l' n'') → CaV (.ref 179) [.ref x, v] c' l' n' Q' X'
theorem raised_drop {x dx pc : Addr} {p1 p2 p3 : Obj} {l₁ : Loc} {cls e : Value} {s₀ s : Shared} (h : Raised c l₁ ((pc, p1) :: (x, p2) :: (dx, p3) :: n) cls s₀ e s) : Raised c [] n cls s₀ e s := by
  obtain ⟨m, ea, B, a0, rfl, y, hB0, hBN, hBn, hfl⟩ := h
  exact ⟨m, ea, B, a0, rfl, y.drop (fun _ hp => by cases hp) (Sel.skip (Sel.skip (Sel.skip Sel.refl))), hB0, fun q hq => hBN q (.tail _ (.tail _ (.tail _ hq))), hBn, hfl⟩
theorem gather_ok {ok : Prop} {Q : Value → Loc → Led → Prop} {nm low k : Str} {t u : Tok} {d : Addr} {rs : List Value} {kd : Nat} (Inv : List Value → AgS → Prop) (T : Value → Prop) (hd : (d, listOf rs.toArray kd) ∈ n)
    (hl : Txt.lower nm = low) (hz : Builtin.Str.tooLong (Txt.lower nm).length = false) (hr : 8 ≤ c.room) (h0 : Inv [] ⟨0, .none, 0, []⟩) (hstep : Steps w low k rs n Inv)
    (hfin : ∀ (sc' : Scope) (c' : Cx prg w (Mine.heap w.params) sc') (x dx pc : Addr) (st : AgS) (n' : Led) (l' : Loc) (Q' : Value → Loc → Led → Prop) (X' : Exc), Inv rs st → 6 ≤ c'.room → AgI w x dx pc low k st n n' → (∀ v, T v → Q' v l' n') → (ok → ∀ s₀ e s, Raised c' l' n' (.ref 44) s₀ e s → X' s₀ e s) → CaV (.ref 186) [.ref x] c' l' n' Q' X')
    (hT : ∀ v u, T v → T u → SameD v u) (h : ∀ a v, T v → Q (.ref a) l ((a, listOf [v].toArray 0) :: n)) (hn : ok → ∀ a, Q (.ref a) l ((a, listOf #[] 0) :: n)) : CaV (.ref 259) [.str nm t, .str k u, .ref d] c l n Q X := by
  refine' W.callDef (binds := [(Str.ofString "name", .str nm t), (Str.ofString "collation", .str k u), (Str.ofString "rows", .ref d)]) (xs := [Str.ofString "name", Str.ofString "collation", Str.ofString "rows"]) ?ho ?hcd ?hbind rfl ?hok (by omega) ?_
  case ho => k_dflt k_is
  case hcd => k_dflt k_is
  case hbind => exact fun s _ => BindsTo.of_eq rfl
  case hok => decide +kernel
  intro c' hr' own' hz'
  change ExL _ c' _ _ _ _
  w_strict walk
  refine agg_new hl hz (by omega) fun x dx pc n' hI => ?_
  have hI0 := hI
  obtain ⟨t1, t2, t3, t4, t5, t6, tw, tk, tm, ts, ps, kp, hps, rfl⟩ := hI
  have hdm := Mm.of hd
  w_strict walk
  rename_i I o ho
  refine FoE.overList (its := rs) (k := kd) (P := fun done l₁ n₁ => ∃ st, Inv done st ∧ AgI w x dx pc low k st n n₁ ∧ l₁ = [(Str.ofString "gathered", .ref x), (Str.ofString "name", .str nm t), (Str.ofString "collation", .str k u), (Str.ofString "rows", .ref d)]) ho ?_ ?_ ?_ ⟨_, h0, hI0, rfl⟩
  · rintro done l₁ n₁ ⟨st, _, ⟨t1, t2, t3, t4, t5, t6, tw, tk, tm, ts, ps, kp, hps, rfl⟩, _⟩
    exact .tail _ (.tail _ (.tail _ hd))
  · rintro done v rest l₁ n₁ o e ⟨st, hst, ⟨t1, t2, t3, t4, t5, t6, tw, tk, tm, ts, ps, kp, hps, rfl⟩, rfl⟩
    w_strict walk
    refine W.weak (n' := (pc, listOf ps.toArray kp) :: (x, instObj 189 dx) :: (dx, agD w t1 t2 t3 t4 t5 t6 (.str low tw) (.str k tk) (.int st.m tm) st.best (.int st.s ts) pc) :: (I, o) :: n) ?_ (fun _ hp => hp) (by walk_at "k_sel")
    refine hstep _ _ x dx pc done v rest st ((I, o) :: n) _ _ _ _ e hst (by omega) (fun _ hp => hp.tail) ⟨t1, t2, t3, t4, t5, t6, tw, tk, tm, ts, ps, kp, hps, rfl⟩ ?_
    rintro st' n'' hst' ⟨t1, t2, t3, t4, t5, t6, tw, tk, tm, ts, ps, kp, hps, rfl⟩
    w_strict walk
    exact Wk.of (by walk_at "k_ls") (by walk_at "k_sel") ⟨_, rfl, st', hst', ⟨t1, t2, t3, t4, t5, t6, tw, tk, tm, ts, ps, kp, hps, rfl⟩, rfl⟩
  · rintro l₁ n₁ ⟨st, hst, hI1, rfl⟩
    have hI2 := hI1
    obtain ⟨t1, t2, t3, t4, t5, t6, tw, tk, tm, ts, ps, kp, hps, rfl⟩ := hI1
    w_strict walk
    refine' ExS.tryNilIf (ok := ok) (C := 44) (l₁ := []) (n₁ := n) ?hC ?hbm own' ?hk ?he ?hd ?hQ ?_
    case hC => k_dflt k_is
    case hbm => decide +kernel
    case hk => decide +kernel
    case he => k_dflt k_is
    case hd => decide +kernel
    case hQ => exact fun hok a => RetK.of (l' := []) (hn hok a) Sel.refl
    w_strict walk
    refine hfin _ _ x dx pc st _ _ _ _ hst (by omega) hI2 (fun v hv => ?_) (fun hok s₀ e s q => ⟨hok, raised_drop q⟩)
    w_strict walk
    refine hfin _ _ x dx pc st _ _ _ _ hst (by omega) hI2 (fun u hu => ?_) (fun hok s₀ e s q => ⟨hok, raised_drop q⟩)
    w_strict walk
    refine CmO.eq_same (hT u v hu hv) ?_
    w_strict walk
    exact RetK.of (h _ _ hv) (by walk_at "k_sel")
end
-- part C13
section
variable {w : World} {sc : Scope} {c : Cx prg w (Mine.heap w.params) sc} {l : Loc} {n : Led} {X : Exc}
theorem CaV.len_1 {Q : Value → Loc → Led → Prop} {d : Addr} {v : Value} {k : Nat} (hm : Mm (d, listOf [v].toArray k) n) (h : ∀ k, Q (.int 1 k) l n) : CaV (.builtin "len") [.ref d] c l n Q X := CaV.len_l hm (by rw [sizeLine_eq]; show 1 ≤ _; decide) h
theorem CaV.len_2 {Q : Value → Loc → Led → Prop} {d : Addr} {v u : Value} {k : Nat} (hm : Mm (d, listOf [v, u].toArray k) n) (h : ∀ k, Q (.int 2 k) l n) : CaV (.builtin "len") [.ref d] c l n Q X := CaV.len_l hm (by rw [sizeLine_eq]; show 2 ≤ _; decide) h
local macro_rules | `(tactic| walk_at "CaV builtin:len") => `(tactic| first | (refine' CaV.len_1 ?hm ?_; (case hm => k_mem); intro _) | (refine' CaV.len_2 ?hm ?_; (case hm => k_mem); intro _))
def txtV : Value → Str
  | .int i _ => Str.ofString (toString i)
  | .str x _ => x
  | _ => ⟨#[]⟩
inductive Okt : Value → Prop
  | int {i : Int} {t : Tok} : -20 ≤ i → i ≤ 20 → Okt (.int i t)
  | str {x : Str} {t : Tok} : Okt (.str x t)
theorem log_small {i : Int} (h1 : -20 ≤ i) (h2 : i ≤ 20) : i.natAbs.log2 < 1920 := by
  have h : i.natAbs < 2 ^ 1920 := Nat.lt_of_le_of_lt (show i.natAbs ≤ 2 ^ 5 by omega) (Nat.pow_lt_pow_right (by decide) (show 5 < 1920 by decide))
  by_cases e : i.natAbs = 0
  · rw [e]; decide
  · exact (Nat.log2_lt e).mpr h
theorem as_text_okt {Q : Value → Loc → Led → Prop} {v : Value} (hv : Okt v) (hr : 1 ≤ c.room) (h : ∀ t, Q (.str (txtV v) t) l n) : CaV (.ref 151) [v] c l n Q X := by
  cases hv with
  | int h1 h2 => exact as_text_int hr (log_small h1 h2) h
  | str => exact as_text_str hr (h _)
theorem Okt.isNone {v : Value} (h : Okt v) : (v == .none) = false := by cases h <;> rfl
local macro_rules | `(tactic| walk_at "CaV ref") => `(tactic| first
  | (refine' as_text_str ?hr ?_; (case hr => omega)) | (refine' as_text_okt ?hv ?hr ?_; (case hv => assumption); (case hr => omega); intro _))
theorem step_concat1 {Q : Value → Loc → Led → Prop} {x dx pc row : Addr} {k : Str} {st : AgS} {kr : Nat} {v : Value} {n' : Led} (hv : Okt v) (hz : st.ps.length ≤ 1000) (hI : AgI w x dx pc (Str.ofString "group_concat") k st n n') (hrow : Mm (row, listOf [v].toArray kr) n) (hr : 5 ≤ c.room)
    (h : ∀ n', AgI w x dx pc (Str.ofString "group_concat") k { st with m := st.m + 1, ps := if st.ps = [] then [txtV v] else st.ps ++ [Str.ofString ",", txtV v] } n n' → Q .none l n') : CaV (.ref 179) [.ref x, .ref row] c l n' Q X := by
  obtain ⟨t1, t2, t3, t4, t5, t6, tw, tk, tm, ts, ps, kp, hps, rfl⟩ := hI
  refine' W.callDef (binds := [(Str.ofString "self", .ref x), (Str.ofString "arguments", .ref row)]) (xs := [Str.ofString "self", Str.ofString "arguments"]) ?ho ?hcd ?hbind rfl ?hok (by omega) ?_
  case ho => k_dflt k_is
  case hcd => k_dflt k_is
  case hbind => exact fun s _ => BindsTo.of_eq rfl
  case hok => decide +kernel
  intro c' hr' own' hz'
  change ExL _ c' _ _ _ _
  have hl := hps.len_eq
  have hvn := hv.isNone
  cases ps with
  | nil =>
    have e0 : st.ps = [] := List.length_eq_zero_iff.mp hl.symm
    rw [if_pos e0] at h
    w_strict walk
    exact RetK.of (h _ ⟨_, _, _, _, _, _, _, _, _, _, _, _, .cons _ _ .nil, rfl⟩) Sel.refl
  | cons p ps =>
    have e0 : ¬ st.ps = [] := fun q => by rw [q] at hl; simp at hl
    rw [if_neg e0] at h
    have z1 : (p :: ps).length ≤ sizeLine := by rw [sizeLine_eq]; omega
    have z2 : ((p :: ps : List Value).toArray).size ≤ sizeLine := by rw [List.size_toArray]; exact z1
    have z3 : ∀ q : Value, ((p :: ps) ++ [q]).length ≤ sizeLine := fun q => by rw [List.length_append, sizeLine_eq]; simp only [List.length_singleton]; omega
    w_strict walk
    refine CaV.append .head (z3 _) ?_
    w_strict walk
    exact RetK.of (h _ ⟨_, _, _, _, _, _, _, _, _, _, _, _, by rw [List.append_assoc]; exact hps.append' (.cons _ _ (.cons _ _ .nil)), rfl⟩) Sel.refl
theorem step_concat2 {Q : Value → Loc → Led → Prop} {x dx pc row : Addr} {k : Str} {st : AgS} {kr : Nat} {v : Value} {y0 : Str} {u0 : Tok} {n' : Led} (hv : Okt v) (hz : st.ps.length ≤ 1000) (hI : AgI w x dx pc (Str.ofString "group_concat") k st n n') (hrow : Mm (row, listOf [v, .str y0 u0].toArray kr) n) (hr : 5 ≤ c.room)
    (h : ∀ n', AgI w x dx pc (Str.ofString "group_concat") k { st with m := st.m + 1, ps := if st.ps = [] then [txtV v] else st.ps ++ [y0, txtV v] } n n' → Q .none l n') : CaV (.ref 179) [.ref x, .ref row] c l n' Q X := by
  obtain ⟨t1, t2, t3, t4, t5, t6, tw, tk, tm, ts, ps, kp, hps, rfl⟩ := hI
  refine' W.callDef (binds := [(Str.ofString "self", .ref x), (Str.ofString "arguments", .ref row)]) (xs := [Str.ofString "self", Str.ofString "arguments"]) ?ho ?hcd ?hbind rfl ?hok (by omega) ?_
  case ho => k_dflt k_is
  case hcd => k_dflt k_is
  case hbind => exact fun s _ => BindsTo.of_eq rfl
  case hok => decide +kernel
  intro c' hr' own' hz'
  change ExL _ c' _ _ _ _
  have hl := hps.len_eq
  have hvn := hv.isNone
  cases ps with
  | nil =>
    have e0 : st.ps = [] := List.length_eq_zero_iff.mp hl.symm
    rw [if_pos e0] at h
    w_strict walk
    exact RetK.of (h _ ⟨_, _, _, _, _, _, _, _, _, _, _, _, .cons _ _ .nil, rfl⟩) Sel.refl
  | cons p ps =>
    have e0 : ¬ st.ps = [] := fun q => by rw [q] at hl; simp at hl
    rw [if_neg e0] at h
    have z1 : (p :: ps).length ≤ sizeLine := by rw [sizeLine_eq]; omega
    have z2 : ((p :: ps : List Value).toArray).size ≤ sizeLine := by rw [List.size_toArray]; exact z1
    have z3 : ∀ q : Value, ((p :: ps) ++ [q]).length ≤ sizeLine := fun q => by rw [List.length_append, sizeLine_eq]; simp only [List.length_singleton]; omega
    w_strict walk
    refine CaV.append .head (z3 _) ?_
    w_strict walk
    exact RetK.of (h _ ⟨_, _, _, _, _, _, _, _, _, _, _, _, by rw [List.append_assoc]; exact hps.append' (.cons _ _ (.cons _ _ .nil)), rfl⟩) Sel.refl
end
-- part C14
section
variable {w : World} {sc : Scope} {c : Cx prg w (Mine.heap w.params) sc} {l : Loc} {n : Led} {X : Exc}
inductive RowsAre (f : Value → List Value) (n : Led) : List Value → List Value → Prop
  | nil : RowsAre f n [] []
  | cons {r : Addr} {k : Nat} {v : Value} {rs vs : List Value} : Mm (r, listOf (f v).toArray k) n → RowsAre f n rs vs → RowsAre f n (.ref r :: rs) (v :: vs)
theorem RowsAre.len {f : Value → List Value} {rs vs : List Value} (h : RowsAre f n rs vs) : rs.length = vs.length := by
  induction h with
  | nil => rfl
  | cons _ _ ih => simp [ih]
theorem RowsAre.mono {f : Value → List Value} {n' : Led} {rs vs : List Value} (h : RowsAre f n rs vs) (hs : ∀ p, Mm p n → Mm p n') : RowsAre f n' rs vs := by
  induction h with
  | nil => exact .nil
  | cons h _ ih => exact .cons (hs _ h) ih
theorem RowsAre.snoc {f : Value → List Value} {rs vs : List Value} {r : Addr} {k : Nat} {v : Value} (h : RowsAre f n rs vs) (hr : Mm (r, listOf (f v).toArray k) n) : RowsAre f n (rs ++ [.ref r]) (vs ++ [v]) := by
  induction h with
  | nil => exact .cons hr .nil
  | cons h _ ih => exact .cons h ih
theorem RowsAre.at {f : Value → List Value} {rs vs : List Value} (h : RowsAre f n rs vs) : ∀ {done : List Value} {r : Value} {rest : List Value}, rs = done ++ r :: rest →
    ∃ v a k, v ∈ vs ∧ r = .ref a ∧ Mm (a, listOf (f v).toArray k) n ∧ vs.take (done.length + 1) = vs.take done.length ++ [v] := by
  induction h with
  | nil => intro done r rest e; cases done <;> cases e
  | @cons a k v rs vs h _ ih =>
    intro done r rest e
    cases done with
    | nil =>
      cases e
      exact ⟨v, a, k, .head _, rfl, h, by simp⟩
    | cons d done =>
      rw [List.cons_append] at e
      obtain ⟨v', a', k', hv, h1, h2, h3⟩ := ih (List.cons.inj e).2
      exact ⟨v', a', k', .tail _ hv, h1, h2, by simp only [List.length_cons, List.take_succ_cons, h3, List.cons_append]⟩
def st0 : AgS := ⟨0, .none, 0, []⟩
/-- steps, one value a row -/
theorem Steps.of {low k : Str} {f : Value → List Value} {rs vs : List Value} (hR : RowsAre f n rs vs) (stp : AgS → Value → AgS) (G : AgS → Prop) (hG0 : G st0) (hG : ∀ st v, v ∈ vs → G st → G (stp st v))
    (hs : ∀ (sc' : Scope) (c' : Cx prg w (Mine.heap w.params) sc') (x dx pc r : Addr) (kr : Nat) (v : Value) (st : AgS) (b n' : Led) (l' : Loc) (Q' : Value → Loc → Led → Prop) (X' : Exc),
      v ∈ vs → G st → (∃ pre : List Value, pre.length ≤ vs.length ∧ st = pre.foldl stp st0) → 6 ≤ c'.room → Mm (r, listOf (f v).toArray kr) b → AgI w x dx pc low k st b n' → (∀ n'', AgI w x dx pc low k (stp st v) b n'' → Q' .none l' n'') → CaV (.ref 179) [.ref x, .ref r] c' l' n' Q' X') :
    Steps w low k rs n (fun done st => G st ∧ st = (vs.take done.length).foldl stp st0) := by
  intro sc' c' x dx pc done v rest st b n' l' Q' X' e hI hr hb hA h
  obtain ⟨hg, rfl⟩ := hI
  obtain ⟨u, a, kk, hu, rfl, hm, ht⟩ := hR.at e
  refine hs sc' c' x dx pc a kk u _ b n' l' Q' X' hu hg ⟨vs.take done.length, by rw [List.length_take]; omega, rfl⟩ hr (hb _ hm) hA fun n'' hA'' => h _ n'' ⟨hG _ u hu hg, ?_⟩ hA''
  rw [List.length_append, List.length_singleton, ht, List.foldl_append]
  rfl
section
variable {Q : Value → Loc → Led → Prop} {t u : Tok} {d : Addr} {rs vs : List Value} {kd : Nat}
theorem fold_inv {stp : AgS → Value → AgS} {G : AgS → Prop} : ∀ {vs : List Value} {st : AgS}, G st → (∀ st v, v ∈ vs → G st → G (stp st v)) → G (vs.foldl stp st)
  | [], st, h, _ => h
  | v :: vs, st, h, g => show G (vs.foldl stp (stp st v)) from fold_inv (vs := vs) (st := stp st v) (g st v (.head _) h) fun st u hu => g st u (.tail _ hu)
/-- any word whose steps and whose end are known -/
theorem gather_fold {ok : Prop} {nm low k : Str} {f : Value → List Value} (stp : AgS → Value → AgS) (G : AgS → Prop) (T : Value → Prop) (hd : (d, listOf rs.toArray kd) ∈ n) (hR : RowsAre f n rs vs)
    (hl : Txt.lower nm = low) (hz : Builtin.Str.tooLong (Txt.lower nm).length = false) (hr : 8 ≤ c.room) (hG0 : G st0) (hG : ∀ st v, v ∈ vs → G st → G (stp st v))
    (hs : ∀ (sc' : Scope) (c' : Cx prg w (Mine.heap w.params) sc') (x dx pc r : Addr) (kr : Nat) (v : Value) (st : AgS) (b n' : Led) (l' : Loc) (Q' : Value → Loc → Led → Prop) (X' : Exc),
      v ∈ vs → G st → (∃ pre : List Value, pre.length ≤ vs.length ∧ st = pre.foldl stp st0) → 6 ≤ c'.room → Mm (r, listOf (f v).toArray kr) b → AgI w x dx pc low k st b n' → (∀ n'', AgI w x dx pc low k (stp st v) b n'' → Q' .none l' n'') → CaV (.ref 179) [.ref x, .ref r] c' l' n' Q' X')
    (hfin : ∀ (sc' : Scope) (c' : Cx prg w (Mine.heap w.params) sc') (x dx pc : Addr) (n' : Led) (l' : Loc) (Q' : Value → Loc → Led → Prop) (X' : Exc), G (vs.foldl stp st0) → 6 ≤ c'.room → AgI w x dx pc low k (vs.foldl stp st0) n n' →
      (∀ v, T v → Q' v l' n') → (ok → ∀ s₀ e s, Raised c' l' n' (.ref 44) s₀ e s → X' s₀ e s) → CaV (.ref 186) [.ref x] c' l' n' Q' X')
    (hT : ∀ v u, T v → T u → SameD v u) (h : ∀ a v, T v → Q (.ref a) l ((a, listOf [v].toArray 0) :: n)) (hn : ok → ∀ a, Q (.ref a) l ((a, listOf #[] 0) :: n)) : CaV (.ref 259) [.str nm t, .str k u, .ref d] c l n Q X := by
  refine gather_ok (ok := ok) (low := low) (fun done st => G st ∧ st = (vs.take done.length).foldl stp st0) T hd hl hz hr ⟨hG0, rfl⟩ (Steps.of hR stp G hG0 hG hs) ?_ hT h hn
  intro sc' c' x dx pc st n' l' Q' X' hI hr' hA
  obtain ⟨hg, rfl⟩ := hI
  rw [hR.len, List.take_length] at hg hA
  exact hfin sc' c' x dx pc n' l' Q' X' hg hr' hA
def stC0 (st : AgS) (_ : Value) : AgS := { st with m := st.m + 1 }
def stC (st : AgS) (v : Value) : AgS := if v = .none then st else { st with m := st.m + 1 }
def stS (st : AgS) (v : Value) : AgS := if v = .none then st else { st with m := st.m + 1, s := st.s + num v }
def stB (k : Str) (sg : Int) (st : AgS) (v : Value) : AgS := if v = .none then st else if st.m = 0 then { st with m := st.m + 1, best := v } else { st with m := st.m + 1, best := betterV k sg v st.best }
def stG (sep : Str) (st : AgS) (v : Value) : AgS := if v = .none then st else { st with m := st.m + 1, ps := if st.ps = [] then [txtV v] else st.ps ++ [sep, txtV v] }
theorem gather_count0 {k : Str} (hd : (d, listOf rs.toArray kd) ∈ n) (hR : RowsAre (fun _ => []) n rs vs) (hr : 8 ≤ c.room) (h : ∀ a t, Q (.ref a) l ((a, listOf [.int (vs.foldl stC0 st0).m t].toArray 0) :: n)) :
    CaV (.ref 259) [.str (Str.ofString "count") t, .str k u, .ref d] c l n Q X := by
  refine gather_fold (ok := False) (low := Str.ofString "count") stC0 (fun _ => True) (fun v => ∃ t, v = .int (vs.foldl stC0 st0).m t) hd hR (by decide +kernel) (by decide +kernel) hr trivial (fun _ _ _ _ => trivial) ?_ ?_ ?_ ?_ (fun f => f.elim)
  · intro sc' c' x dx pc r kr v st b n' l' Q' X' hv _ _ hr' hm hA h
    exact step_count0 hA hm (by omega) h
  · intro sc' c' x dx pc n' l' Q' X' _ hr' hA h _
    exact final_count hA (by omega) fun t => h _ ⟨t, rfl⟩
  · rintro v u ⟨t, rfl⟩ ⟨t', rfl⟩; exact .int
  · rintro a v ⟨t, rfl⟩; exact h a t
theorem gather_count {k : Str} (hd : (d, listOf rs.toArray kd) ∈ n) (hR : RowsAre (fun v => [v]) n rs vs) (hr : 8 ≤ c.room) (h : ∀ a t, Q (.ref a) l ((a, listOf [.int (vs.foldl stC st0).m t].toArray 0) :: n)) :
    CaV (.ref 259) [.str (Str.ofString "count") t, .str k u, .ref d] c l n Q X := by
  refine gather_fold (ok := False) (low := Str.ofString "count") stC (fun _ => True) (fun v => ∃ t, v = .int (vs.foldl stC st0).m t) hd hR (by decide +kernel) (by decide +kernel) hr trivial (fun _ _ _ _ => trivial) ?_ ?_ ?_ ?_ (fun f => f.elim)
  · intro sc' c' x dx pc r kr v st b n' l' Q' X' hv _ _ hr' hm hA h
    by_cases e : v = .none
    · subst e
      exact step_none (.head _) hA hm (by omega) (by rw [sizeLine_eq]; show 1 ≤ _; decide) h
    · simp only [stC, if_neg e] at h
      exact step_count1 e hA hm (by omega) h
  · intro sc' c' x dx pc n' l' Q' X' _ hr' hA h _
    exact final_count hA (by omega) fun t => h _ ⟨t, rfl⟩
  · rintro v u ⟨t, rfl⟩ ⟨t', rfl⟩; exact .int
  · rintro a v ⟨t, rfl⟩; exact h a t
/-- what a sum, a total tells -/
def TSum (word : Str) (st : AgS) (v : Value) : Prop := if st.m = 0 then (if word = Str.ofString "sum" then v = .none else ∃ t, v = .int 0 t) else ∃ t, v = .int st.s t
theorem TSum.same {word : Str} {st : AgS} {v u : Value} (h : TSum word st v) (h' : TSum word st u) : SameD v u := by
  unfold TSum at h h'
  split at h
  · rename_i e
    rw [if_pos e] at h'
    split at h
    · rename_i e; rw [if_pos e] at h'; subst h h'; exact .none
    · rename_i e; rw [if_neg e] at h'; obtain ⟨_, rfl⟩ := h; obtain ⟨_, rfl⟩ := h'; exact .int
  · rename_i e
    rw [if_neg e] at h'
    obtain ⟨_, rfl⟩ := h; obtain ⟨_, rfl⟩ := h'; exact .int
theorem stS_m {vs : List Value} {st : AgS} (h : 0 ≤ st.m) : 0 ≤ (vs.foldl stS st).m :=
  fold_inv (G := fun st => 0 ≤ st.m) h fun st v _ h => by unfold stS; split <;> simp_all; omega
theorem sum_steps {word k : Str} (hw : word ∈ [Str.ofString "sum", Str.ofString "total"]) (ov : ∀ v ∈ vs, Okv v) :
    ∀ (sc' : Scope) (c' : Cx prg w (Mine.heap w.params) sc') (x dx pc r : Addr) (kr : Nat) (v : Value) (st : AgS) (b n' : Led) (l' : Loc) (Q' : Value → Loc → Led → Prop) (X' : Exc),
      v ∈ vs → 0 ≤ st.m → (∃ pre : List Value, pre.length ≤ vs.length ∧ st = pre.foldl stS st0) → 6 ≤ c'.room → Mm (r, listOf [v].toArray kr) b → AgI w x dx pc word k st b n' → (∀ n'', AgI w x dx pc word k (stS st v) b n'' → Q' .none l' n'') → CaV (.ref 179) [.ref x, .ref r] c' l' n' Q' X' := by
  intro sc' c' x dx pc r kr v st b n' l' Q' X' hv _ _ hr' hm hA h
  by_cases e : v = .none
  · subst e
    refine step_none ?_ hA hm (by omega) (by rw [sizeLine_eq]; show 1 ≤ _; decide) h
    simp only [List.mem_cons, List.not_mem_nil, or_false] at hw ⊢
    rcases hw with rfl | rfl <;> simp
  · simp only [stS, if_neg e] at h
    exact step_sum hw e (ov v hv) hA hm (by omega) h
theorem gather_sum {word k : Str} (hw : word ∈ [Str.ofString "sum", Str.ofString "total"]) (hd : (d, listOf rs.toArray kd) ∈ n) (hR : RowsAre (fun v => [v]) n rs vs) (ov : ∀ v ∈ vs, Okv v) (hr : 8 ≤ c.room)
    (h1 : -9223372036854775808 ≤ (vs.foldl stS st0).s) (h2 : (vs.foldl stS st0).s ≤ 9223372036854775807) (h : ∀ a v, TSum word (vs.foldl stS st0) v → Q (.ref a) l ((a, listOf [v].toArray 0) :: n)) :
    CaV (.ref 259) [.str word t, .str k u, .ref d] c l n Q X := by
  have hw2 := hw
  simp only [List.mem_cons, List.not_mem_nil, or_false] at hw2
  refine gather_fold (ok := False) (low := word) stS (fun st => 0 ≤ st.m) (TSum word (vs.foldl stS st0)) hd hR ?_ ?_ hr (by decide) (fun st v _ g => ?_) (sum_steps hw ov) ?_ (fun v u => TSum.same) h (fun f => f.elim)
  · rcases hw2 with rfl | rfl <;> decide +kernel
  · rcases hw2 with rfl | rfl <;> decide +kernel
  · exact stS_m (vs := [v]) g
  · intro sc' c' x dx pc n' l' Q' X' g hr' hA h _
    by_cases e : (vs.foldl stS st0).m = 0
    · rcases hw2 with rfl | rfl
      · exact final_none (.head _) e hA (by omega) (h _ (by unfold TSum; rw [if_pos e, if_pos rfl]))
      · exact final_total0 e hA (by omega) fun t => h _ (by unfold TSum; rw [if_pos e, if_neg (by decide +kernel)]; exact ⟨t, rfl⟩)
    · exact final_sum hw (by omega) h1 h2 hA (by omega) fun t => h _ (by unfold TSum; rw [if_neg e]; exact ⟨t, rfl⟩)
theorem gather_over {k : Str} (hd : (d, listOf rs.toArray kd) ∈ n) (hR : RowsAre (fun v => [v]) n rs vs) (ov : ∀ v ∈ vs, Okv v) (hr : 8 ≤ c.room)
    (hm : 0 < (vs.foldl stS st0).m) (hs : (vs.foldl stS st0).s < -9223372036854775808 ∨ 9223372036854775807 < (vs.foldl stS st0).s) (h : ∀ a, Q (.ref a) l ((a, listOf #[] 0) :: n)) :
    CaV (.ref 259) [.str (Str.ofString "sum") t, .str k u, .ref d] c l n Q X := by
  refine gather_fold (ok := True) (low := Str.ofString "sum") stS (fun st => 0 ≤ st.m) (fun _ => False) hd hR (by decide +kernel) (by decide +kernel) hr (by decide) (fun st v _ g => ?_) (sum_steps (.head _) ov) ?_ (fun v u f => f.elim) (fun a v f => f.elim) (fun _ => h)
  · exact stS_m (vs := [v]) g
  · intro sc' c' x dx pc n' l' Q' X' g hr' hA _ hX
    exact final_over hm hs hA (by omega) (hX trivial)
end
section
variable {Q : Value → Loc → Led → Prop} {t u : Tok} {d : Addr} {rs vs : List Value} {kd : Nat}
def GBest (st : AgS) : Prop := 0 ≤ st.m ∧ Okv st.best ∧ (st.m = 0 → st.best = .none) ∧ (st.m ≠ 0 → st.best ≠ .none)
theorem GBest.step {k : Str} {sg : Int} {st : AgS} {v : Value} (ov : Okv v) (g : GBest st) : GBest (stB k sg st v) := by
  obtain ⟨g1, g2, g3, g4⟩ := g
  unfold stB
  split
  · exact ⟨g1, g2, g3, g4⟩
  · rename_i e
    split
    · exact ⟨by show 0 ≤ st.m + 1; omega, ov, fun q => by have : st.m + 1 = 0 := q; omega, fun _ => e⟩
    · rename_i e'
      refine ⟨by show 0 ≤ st.m + 1; omega, ?_, fun q => by have : st.m + 1 = 0 := q; omega, fun _ => ?_⟩
      · show Okv (betterV k sg v st.best); unfold betterV; split <;> assumption
      · show betterV k sg v st.best ≠ .none; unfold betterV; split
        · exact e
        · exact g4 e'
theorem SameD.refl {v : Value} (h : Okv v) : SameD v v := by cases h <;> constructor
theorem gather_best {nm word k : Str} (hl : Txt.lower nm = word) (hz : Builtin.Str.tooLong (Txt.lower nm).length = false) (hw : word ∈ [Str.ofString "min", Str.ofString "max"]) (hk : k ∈ colls) (hd : (d, listOf rs.toArray kd) ∈ n) (hR : RowsAre (fun v => [v]) n rs vs) (ov : ∀ v ∈ vs, Okv v) (hr : 8 ≤ c.room)
    (h : ∀ a, Q (.ref a) l ((a, listOf [(vs.foldl (stB k (if word = Str.ofString "max" then 1 else -1)) st0).best].toArray 0) :: n)) :
    CaV (.ref 259) [.str nm t, .str k u, .ref d] c l n Q X := by
  refine gather_fold (ok := False) (low := word) (stB k (if word = Str.ofString "max" then 1 else -1)) GBest (fun v => v = (vs.foldl (stB k (if word = Str.ofString "max" then 1 else -1)) st0).best ∧ Okv v) hd hR hl hz hr ⟨by decide, .none, fun _ => rfl, fun q => absurd rfl q⟩ (fun st v hv g => g.step (ov v hv)) ?_ ?_ ?_ ?_ (fun f => f.elim)
  · intro sc' c' x dx pc r kr v st b n' l' Q' X' hv g _ hr' hm hA h
    by_cases e : v = .none
    · subst e
      refine step_none ?_ hA hm (by omega) (by rw [sizeLine_eq]; show 1 ≤ _; decide) h
      simp only [List.mem_cons, List.not_mem_nil, or_false] at hw ⊢
      rcases hw with rfl | rfl <;> simp
    · by_cases e' : st.m = 0
      · simp only [stB, if_neg e, if_pos e'] at h
        exact step_first hw e e' hA hm (by omega) h
      · simp only [stB, if_neg e, if_neg e'] at h
        have := g.1
        exact step_more hw e (ov v hv) (g.2.2.2 e') g.2.1 hk (by omega) hA hm (by omega) h
  · intro sc' c' x dx pc n' l' Q' X' g hr' hA h _
    by_cases e : (vs.foldl (stB k (if word = Str.ofString "max" then 1 else -1)) st0).m = 0
    · refine final_none ?_ e hA (by omega) (h _ ⟨(g.2.2.1 e).symm, .none⟩)
      simp only [List.mem_cons, List.not_mem_nil, or_false] at hw ⊢
      rcases hw with rfl | rfl <;> simp
    · have := g.1
      exact final_best hw (by omega) g.2.1 hA (by omega) (h _ ⟨rfl, g.2.1⟩)
  · rintro v u ⟨rfl, o⟩ ⟨rfl, _⟩; exact .refl o
  · rintro a v ⟨rfl, _⟩; exact h a
/-- what a join tells -/
def TCat (st : AgS) (v : Value) : Prop := if st.m = 0 then v = .none else ∃ t, v = .str (Txt.join (Str.ofString "") st.ps) t
theorem TCat.same {st : AgS} {v u : Value} (h : TCat st v) (h' : TCat st u) : SameD v u := by
  unfold TCat at h h'
  split at h
  · rename_i e; rw [if_pos e] at h'; subst h h'; exact .none
  · rename_i e; rw [if_neg e] at h'; obtain ⟨_, rfl⟩ := h; obtain ⟨_, rfl⟩ := h'; exact .str
/-- the rows of a join -/
def rowG (b : Value) (v : Value) : List Value := if b = .none then [v] else [v, b]
def sepG : Value → Str
  | .str x _ => x
  | _ => Str.ofString ","
inductive SepOk : Value → Prop
  | none : SepOk .none
  | str {x : Str} {t : Tok} : x ∈ [Str.ofString ", ", Str.ofString ""] → SepOk (.str x t)
theorem stG_len {sep : Str} : ∀ (pre : List Value) (st : AgS), 0 ≤ st.m → 0 ≤ (pre.foldl (stG sep) st).m ∧ (pre.foldl (stG sep) st).ps.length ≤ st.ps.length + 2 * pre.length
  | [], st, h => ⟨h, by simp⟩
  | v :: pre, st, h => by
    have h1 : 0 ≤ (stG sep st v).m ∧ (stG sep st v).ps.length ≤ st.ps.length + 2 := by
      unfold stG
      split
      · exact ⟨h, by omega⟩
      · refine ⟨by show 0 ≤ st.m + 1; omega, ?_⟩
        show (if st.ps = [] then [txtV v] else st.ps ++ [sep, txtV v]).length ≤ _
        split
        · simp
        · rw [List.length_append]; simp
    have := stG_len (sep := sep) pre (stG sep st v) h1.1
    rw [List.foldl_cons]
    refine ⟨this.1, ?_⟩
    rw [List.length_cons]
    omega
theorem gather_concat {k : Str} {b : Value} (hb : SepOk b) (hd : (d, listOf rs.toArray kd) ∈ n) (hR : RowsAre (rowG b) n rs vs) (ot : ∀ v ∈ vs, v = .none ∨ Okt v) (hr : 8 ≤ c.room) (hlen : vs.length ≤ 500)
    (hG2 : ((vs.foldl (stG (sepG b)) st0).ps.map (·.length)).sum ≤ 16000000)
    (h : ∀ a v, TCat (vs.foldl (stG (sepG b)) st0) v → Q (.ref a) l ((a, listOf [v].toArray 0) :: n)) :
    CaV (.ref 259) [.str (Str.ofString "group_concat") t, .str k u, .ref d] c l n Q X := by
  refine gather_fold (ok := False) (low := Str.ofString "group_concat") (stG (sepG b)) (fun _ => True) (TCat (vs.foldl (stG (sepG b)) st0)) hd hR (by decide +kernel) (by decide +kernel) hr trivial (fun _ _ _ _ => trivial) ?_ ?_ (fun v u => TCat.same) h (fun f => f.elim)
  · intro sc' c' x dx pc r kr v st bb n' l' Q' X' hv _ hpre hr' hm hA h
    obtain ⟨pre, hp, rfl⟩ := hpre
    have hz := (stG_len (sep := sepG b) pre st0 (by decide)).2
    have hz : (pre.foldl (stG (sepG b)) st0).ps.length ≤ 1000 := by
      have e : st0.ps.length = 0 := rfl
      omega
    by_cases e : v = .none
    · subst e
      cases hb with
      | none => exact step_none (r := []) (by simp) hA hm (by omega) (by rw [sizeLine_eq]; show 1 ≤ _; decide) h
      | @str y ty hy => exact step_none (r := [.str y ty]) (by simp) hA hm (by omega) (by rw [sizeLine_eq]; show 2 ≤ _; decide) h
    · simp only [stG, if_neg e] at h
      have o := (ot v hv).resolve_left e
      cases hb with
      | none => exact step_concat1 o hz hA hm (by omega) h
      | @str y ty hy => exact step_concat2 (y0 := y) (u0 := ty) o hz hA hm (by omega) h
  · intro sc' c' x dx pc n' l' Q' X' _ hr' hA h _
    have g1 := (stG_len (sep := sepG b) vs st0 (by decide)).1
    by_cases e : (vs.foldl (stG (sepG b)) st0).m = 0
    · exact final_none (by simp) e hA (by omega) (h _ (by unfold TCat; rw [if_pos e]))
    · exact final_concat (by omega) (by show _ + _ * 0 ≤ _; omega) hA (by omega) fun t => h _ (by unfold TCat; rw [if_neg e]; exact ⟨t, rfl⟩)
end
end
-- part C15
section
variable {w : World} {sc : Scope} {c : Cx prg w (Mine.heap w.params) sc} {l : Loc} {n : Led} {X : Exc}
theorem law_best_ok {Q : Value → Loc → Led → Prop} {d : Addr} {vs : List Value} {kd : Nat} {k : Str} {t : Tok} {least : Bool} (hd : (d, listOf vs.toArray kd) ∈ n) (ov : ∀ v ∈ vs, Okv v) (hk : k ∈ colls) (hr : 3 ≤ c.room)
    (h : Q (lawBest k least vs) l n) : CaV (.ref 266) [.ref d, .str k t, .bool least] c l n Q X := by
  refine' W.callDef (binds := [(Str.ofString "values", .ref d), (Str.ofString "collation", .str k t), (Str.ofString "is_least", .bool least)]) (xs := [Str.ofString "values", Str.ofString "collation", Str.ofString "is_least"]) ?ho ?hcd ?hbind rfl ?hok (by omega) ?_
  case ho => k_dflt k_is
  case hcd => k_dflt k_is
  case hbind => exact fun s _ => BindsTo.of_eq rfl
  case hok => decide +kernel
  intro c' hr' own' hz'
  change ExL _ c' _ _ _ _
  have hdm := Mm.of hd
  w_strict walk
  rename_i I o ho
  refine FoE.overList (its := vs) (k := kd) (P := fun done l₁ n₁ => n₁ = n ∧ Okv (lawBest k least done) ∧ l₁ = [(Str.ofString "best", lawBest k least done), (Str.ofString "values", .ref d), (Str.ofString "collation", .str k t), (Str.ofString "is_least", .bool least)]) ho ?_ ?_ ?_ ⟨rfl, .none, rfl⟩
  · rintro done l₁ n₁ ⟨rfl, _, _⟩; exact hd
  · rintro done v rest l₁ n₁ o e ⟨rfl, ob, rfl⟩
    have hv : Okv v := ov v (by rw [e]; simp)
    have est : lawBest k least (done ++ [v]) = lawStep k least (lawBest k least done) v := by unfold lawBest; rw [List.foldl_append]; rfl
    rw [est]
    generalize lawBest k least done = best at ob ⊢
    by_cases nv : v = .none
    · subst nv
      have e2 : lawStep k least best .none = best := rfl
      rw [e2]
      w_strict walk
      exact Wk.of (by walk_at "k_ls") (by walk_at "k_sel") ⟨_, rfl, rfl, ob, rfl⟩
    · skip
      have qv := hv.isNone nv
      by_cases nb : best = .none
      · subst nb
        have e2 : lawStep k least .none v = v := by unfold lawStep; rw [qv]; rfl
        rw [e2]
        w_strict walk
        exact Wk.of (by walk_at "k_ls") (by walk_at "k_sel") ⟨_, rfl, rfl, hv, rfl⟩
      · skip
        have qb := ob.isNone nb
        cases least with
        | true =>
          have e2 : lawStep k true best v = if lessV k v best then v else best := by unfold lawStep; rw [qv, qb]; rfl
          rw [e2]
          w_strict walk
          refine less_ok hv ob nv nb hk (by omega) ?_
          cases q : lessV k v best with
          | true =>
            rw [if_pos (rfl : true = true)]
            w_strict walk
            exact Wk.of (by walk_at "k_ls") (by walk_at "k_sel") ⟨_, rfl, rfl, hv, rfl⟩
          | false =>
            rw [if_neg (by decide : ¬ (false = true))]
            w_strict walk
            exact Wk.of (by walk_at "k_ls") (by walk_at "k_sel") ⟨_, rfl, rfl, ob, rfl⟩
        | false =>
          have e2 : lawStep k false best v = if lessV k best v then v else best := by unfold lawStep; rw [qv, qb]; rfl
          rw [e2]
          w_strict walk
          refine less_ok ob hv nb nv hk (by omega) ?_
          cases q : lessV k best v with
          | true =>
            rw [if_pos (rfl : true = true)]
            w_strict walk
            exact Wk.of (by walk_at "k_ls") (by walk_at "k_sel") ⟨_, rfl, rfl, hv, rfl⟩
          | false =>
            rw [if_neg (by decide : ¬ (false = true))]
            w_strict walk
            exact Wk.of (by walk_at "k_ls") (by walk_at "k_sel") ⟨_, rfl, rfl, ob, rfl⟩
  · rintro l₁ n₁ ⟨rfl, _, rfl⟩
    w_strict walk
    exact RetK.of h Sel.refl
inductive All2 (R : Value → Value → Prop) : List Value → List Value → Prop
  | nil : All2 R [] []
  | cons {v y : Value} {vs ys : List Value} : R v y → All2 R vs ys → All2 R (v :: vs) (y :: ys)
theorem All2.snoc {R : Value → Value → Prop} {vs ys : List Value} {v y : Value} (h : All2 R vs ys) (hr : R v y) : All2 R (vs ++ [v]) (ys ++ [y]) := by
  induction h with
  | nil => exact .cons hr .nil
  | cons h _ ih => exact .cons h ih
theorem All2.eq {vs ys : List Value} (h : All2 (fun v y => y = v) vs ys) : ys = vs := by
  induction h with
  | nil => rfl
  | cons h _ ih => rw [h, ih]
/-- a comprehension that makes a row a value -/
theorem comp_rows {elt : Expr} {x : Str} {px : Pos} {I d D : Addr} {o : Obj} {vs : List Value} {kd : Nat} {Fin : Loc → Led → Prop} {l : Loc} {n : Led} {f : Value → List Value} {sc₂ : Scope} {c₂ : Cx prg w (Mine.heap w.params) sc₂}
    (ho : LIt o d 0) (hd : (d, listOf vs.toArray kd) ∈ n) (hz : vs.length ≤ 1000) (hk : sc₂.names.lookup x = some .local)
    (helt : ∀ (v : Value) (n₂ : Led) (Q : Value → Loc → Led → Prop), (∀ p, Mm p n → Mm p n₂) → (∀ a, Q (.ref a) [(x, v)] ((a, listOf (f v).toArray 0) :: n₂)) → EvE elt c₂ [(x, v)] n₂ Q NoX)
    (fin : ∀ l' outs m e, RowsAre f (e ++ n) outs vs → Fin l' ((D, listOf outs.toArray m) :: (e ++ n))) : CoE elt x px [] (.ref I) D c₂ l ((D, listOf #[] 0) :: (I, o) :: n) Fin := by
  refine CoE.overList (its := vs) (k := kd) (P := fun done outs n' => ∃ e, n' = e ++ n ∧ RowsAre f (e ++ n) outs done) ho hz ?_ ?_ ?_ ⟨[], rfl, .nil⟩
  · rintro done outs n' ⟨e, rfl, _⟩; exact List.mem_append_right _ hd
  · rintro done v rest outs n' o' m e hlen ⟨ex, rfl, hR⟩
    refine StN.local hk .nil (TsL.nil (brK_true (helt v _ _ (fun p hp => (Mm.app_r hp).tail.tail) fun a => ?_)))
    refine ⟨(a, listOf (f v).toArray 0) :: (ex ++ n), ?_, (a, listOf (f v).toArray 0) :: ex, rfl, (hR.mono fun p hp => hp.tail).snoc .head⟩
    exact Sel.take (.tail .head) (Sel.take (.tail .head) (Sel.refl))
  · rintro l' outs m n' ⟨e, rfl, hR⟩
    exact fin l' outs m e hR
/-- a comprehension over the values that pass a test, each handed on by a function -/
theorem comp_map {elt : Expr} {x : Str} {px : Pos} {ifs : List Expr} {I d D : Addr} {o : Obj} {vs : List Value} {kd : Nat} {Fin : Loc → Led → Prop} {l : Loc} {n : Led} {R : Value → Value → Prop} {keep : Value → Bool} {sc₂ : Scope} {c₂ : Cx prg w (Mine.heap w.params) sc₂}
    (ho : LIt o d 0) (hd : (d, listOf vs.toArray kd) ∈ n) (hz : vs.length ≤ 1000) (hk : sc₂.names.lookup x = some .local)
    (htest : ∀ (v : Value) (n₂ : Led) (A B : Loc → Led → Prop), v ∈ vs → (keep v = true → A [(x, v)] n₂) → (keep v = false → B [(x, v)] n₂) → TsL ifs c₂ [(x, v)] n₂ (brK A B) NoX)
    (helt : ∀ (v : Value) (n₂ : Led) (Q : Value → Loc → Led → Prop), v ∈ vs → keep v = true → (∀ y, R v y → Q y [(x, v)] n₂) → EvE elt c₂ [(x, v)] n₂ Q NoX)
    (fin : ∀ l' outs m, All2 R (vs.filter keep) outs → Fin l' ((D, listOf outs.toArray m) :: n)) : CoE elt x px ifs (.ref I) D c₂ l ((D, listOf #[] 0) :: (I, o) :: n) Fin := by
  refine CoE.overList (its := vs) (k := kd) (P := fun done outs n' => n' = n ∧ All2 R (done.filter keep) outs) ho hz ?_ ?_ ?_ ⟨rfl, .nil⟩
  · rintro done outs n' ⟨rfl, _⟩; exact hd
  · rintro done v rest outs n' o' m e hlen ⟨rfl, hR⟩
    have hv : v ∈ vs := by rw [e]; simp
    refine StN.local hk .nil (htest v _ _ _ hv (fun q => helt v _ _ hv q fun y hy => ⟨_, Sel.refl, rfl, ?_⟩) fun q => ⟨_, Sel.refl, rfl, ?_⟩)
    · rw [List.filter_append, List.filter_cons_of_pos q]; exact hR.snoc hy
    · rw [List.filter_append, List.filter_cons_of_neg (by rw [q]; decide)]; simpa using hR
  · rintro l' outs m n' ⟨rfl, hR⟩
    exact fin l' outs m hR
end
-- part NtS
section
variable {pr : Program} {w : World} {K : Frag} {sc : Scope} {c : Cx pr w K sc} {l : Loc} {n : Led} {X : Exc}
theorem AsT.list2 {x y : Str} {p1 p2 pos : Pos} {k kd : Nat} {a b : Value} {d : Addr} {Q : Unit → Loc → Led → Prop} (hm : Mm (d, listOf [a, b].toArray kd) n) (h : StN x a c l n (fun _ l n => StN y b c l n Q X) X) :
    AsT (.Tuple [.Name x p1, .Name y p2] k pos) (.ref d) c l n Q X := by
  intro s₀ s m z
  have hit : ItR (.ref d) c l n (fun it l' n' => l' = l ∧ ∃ I o, it = .ref I ∧ n' = (I, o) :: n ∧ LIt o d 0) X := ItR.list hm fun I o ho => ⟨rfl, I, o, rfl, rfl, ho⟩
  rw [assign_Tuple]
  refine wpAny_bind (wpAny_standAt ?_)
  unfold unpack
  refine wpAny_bind (wpAny_holding ?_)
  show wpAny _ _ (unpackItems (.ref d) 2 Option.none) _ _ _
  unfold unpackItems
  refine wpAny_bind ?_
  unfold notIterableAtAll
  refine wpAny_bind (wpAny_specialOf (T := "list") ⟨_, z.isLL hm, rfl⟩ F.slot_list_iter.lookup ?_)
  refine wpAny_pure ?_
  simp only [Bool.false_eq_true, if_false]
  refine wpAny_bind (wpAny_holding (W.use hit z fun it s₁ m₁ l₁ n₁ z₁ h₁ => ?_))
  obtain ⟨rfl, I, o, rfl, rfl, ho⟩ := h₁
  refine wpAny_bind (wpAny_holding ?_)
  have nx1 : NxT (.ref I) c l₁ ((I, o) :: n) (fun r l' n' => l' = l₁ ∧ r = some a ∧ ∃ o, n' = (I, o) :: n ∧ LIt o d 1) X := NxT.list_item .head ho hm.tail rfl fun o' ho' => ⟨rfl, rfl, o', rfl, ho'⟩
  show wpAny _ _ (pyNext (.ref I) >>= _) _ _ _
  refine wpAny_bind (W.use nx1 z₁ fun r s₂ m₂ l₂ n₂ z₂ h₂ => ?_)
  obtain ⟨rfl, rfl, o2, rfl, ho2⟩ := h₂
  have nx2 : NxT (.ref I) c l₂ ((I, o2) :: n) (fun r l' n' => l' = l₂ ∧ r = some b ∧ ∃ o, n' = (I, o) :: n ∧ LIt o d 2) X := NxT.list_item .head ho2 hm.tail rfl fun o' ho' => ⟨rfl, rfl, o', rfl, ho'⟩
  refine wpAny_bind (wpAny_holding ?_)
  show wpAny _ _ (pyNext (.ref I) >>= _) _ _ _
  refine wpAny_bind (W.use nx2 z₂ fun r s₃ m₃ l₃ n₃ z₃ h₃ => ?_)
  obtain ⟨rfl, rfl, o3, rfl, ho3⟩ := h₃
  refine wpAny_bind (wpAny_holding ?_)
  refine wpAny_pure (wpAny_pure (wpAny_pure ?_))
  have nx3 : NxT (.ref I) c l₃ ((I, o3) :: n) (fun r l' n' => l' = l₃ ∧ r = Option.none ∧ n' = n) X := NxT.list_end .head .head ho3 hm.tail rfl ⟨rfl, rfl, rfl⟩
  rw [if_neg (by simp)]
  refine wpAny_bind (wpAny_holding (W.use nx3 z₃ fun r s₄ m₄ l₄ n₄ z₄ h₄ => ?_))
  obtain ⟨rfl, rfl, rfl⟩ := h₄
  simp only [Option.isSome_none, Bool.false_eq_true, if_false]
  refine wpAny_pure ?_
  refine assignInOrder_cons (wpAny_assign_Name (W.use h z₄ fun _ _ _ _ _ z₅ h₅ => ?_))
  exact assignInOrder_cons (wpAny_assign_Name (W.use h₅ z₅ fun _ _ _ _ _ z₆ h₆ => assignInOrder_nil (z₆.end h₆)))
theorem W.nodup {α : Type} {t : Sem α} {Q : α → Loc → Led → Prop} (h : (n.map (·.1)).Nodup → W t c l n Q X) : W t c l n Q X := fun s₀ s m z => h (by
  have u := z.O.U
  rw [List.map_append] at u
  exact (List.nodup_append.mp u).1) s₀ s m z
theorem CaV.bytesE {Q : Value → Loc → Led → Prop} {d : Addr} {vs : List Value} {k : Nat} {ns : List Int} {b : List UInt8} (hi : IntsAre vs ns) (hd : Mm (d, listOf vs.toArray k) n) (e : ns.map (fun n => n.toNat.toUInt8) = b) (hr : ∀ n ∈ ns, 0 ≤ n ∧ n < 256) (hz : vs.length ≤ sizeLine) (h : ∀ t, Q (.bytes b.toArray t) l n) :
    CaV (.type "bytes") [.ref d] c l n Q X := by subst e; exact CaV.bytes_l hd hi hr hz h
/-- the source of the draws, somewhere in the ledger -/
def Src (src : Addr) (C : Obj → Led) (n : Led) : Prop := ∃ x tx y ty k, Put n src (listOf #[.int x tx, .int y ty] k) C ∧ 0 ≤ x ∧ 0 ≤ y ∧ y < 2147483647
theorem Src.cons {src : Addr} {C : Obj → Led} {n : Led} {p : Addr × Obj} (h : Src src C n) : Src src (fun o => p :: C o) (p :: n) := by
  obtain ⟨x, tx, y, ty, k, hp, r⟩ := h
  exact ⟨x, tx, y, ty, k, hp.tail, r⟩
theorem Src.uncons {src : Addr} {C : Obj → Led} {n n' : Led} {p : Addr × Obj} (h0 : Src src C n) (h : Src src (fun o => p :: C o) n') : ∃ n'', n' = p :: n'' ∧ Src src C n'' := by
  obtain ⟨x, tx, y, ty, k, hp, r⟩ := h
  obtain ⟨x0, tx0, y0, ty0, k0, hp0, _⟩ := h0
  exact ⟨_, hp.eq, x, tx, y, ty, k, hp0.again _, r⟩
theorem Src.re {src : Addr} {C C' : Obj → Led} {n n' : Led} (h0 : Src src C n) (h : Src src C' n') : ∃ o', n' = C' o' ∧ Src src C (C o') := by
  obtain ⟨x, tx, y, ty, k, hp, r⟩ := h
  obtain ⟨x0, tx0, y0, ty0, k0, hp0, _⟩ := h0
  exact ⟨_, hp.eq, x, tx, y, ty, k, hp0.again _, r⟩
theorem Src.mem {src : Addr} {C : Obj → Led} {n : Led} (h : Src src C n) : ∃ o, (src, o) ∈ n := by
  obtain ⟨x, tx, y, ty, k, hp, _⟩ := h
  exact ⟨_, hp.mem⟩
theorem Src.ne {src a : Addr} {C : Obj → Led} {n : Led} {o : Obj} (h : Src src C n) (hu : (((a, o) :: n).map (·.1)).Nodup) : a ≠ src := by
  obtain ⟨o', ho⟩ := h.mem
  rw [List.map_cons] at hu
  intro e
  exact (List.nodup_cons.mp hu).1 (by rw [e]; exact List.mem_map.mpr ⟨_, ho, rfl⟩)
theorem Src.other {src : Addr} {C : Obj → Led} {n n' : Led} {p : Addr × Obj} (h0 : Src src C n) (h : Src src C n') (hm : Mm p n) (ne : p.1 ≠ src) : Mm p n' := by
  obtain ⟨x, tx, y, ty, k, hp, r⟩ := h
  obtain ⟨x0, tx0, y0, ty0, k0, hp0, _⟩ := h0
  have := hp0.other (listOf #[.int x tx, .int y ty] k) (b := p.1) (ob := p.2) hm.mem ne
  rw [← hp.eq] at this
  exact Mm.of this
end
local macro_rules | `(tactic| walk_at "AsT Tuple") => `(tactic| (refine' AsT.list2 ?hm ?_; (case hm => k_mem)))
local macro_rules | `(tactic| walk_at "CaV type:bytes") => `(tactic| first
  | (refine' CaV.bytesE (b := []) .nil ?hd ?he ?hr ?hz ?_; (case hd => k_mem); (case he => decide +kernel); (case hr => decide); (case hz => exact Nat.le_of_ble_eq_true (by with_unfolding_all rfl)); intro _)
  | (refine' CaV.bytesE (b := [49]) (.cons _ _ .nil) ?hd ?he ?hr ?hz ?_; (case hd => k_mem); (case he => decide +kernel); (case hr => decide); (case hz => exact Nat.le_of_ble_eq_true (by with_unfolding_all rfl)); intro _)
  | (refine' CaV.bytesE (b := [97, 0]) (.cons _ _ (.cons _ _ .nil)) ?hd ?he ?hr ?hz ?_; (case hd => k_mem); (case he => decide +kernel); (case hr => decide); (case hz => exact Nat.le_of_ble_eq_true (by with_unfolding_all rfl)); intro _)
  | (refine' CaV.bytesE (b := [255]) (.cons _ _ .nil) ?hd ?he ?hr ?hz ?_; (case hd => k_mem); (case he => decide +kernel); (case hr => decide); (case hz => exact Nat.le_of_ble_eq_true (by with_unfolding_all rfl)); intro _))
-- part C16
section
variable {w : World} {sc : Scope} {c : Cx prg w (Mine.heap w.params) sc} {l : Loc} {n : Led} {X : Exc}
inductive Dr : Value → Prop
  | none : Dr .none
  | int {i : Int} {t : Tok} : -20 ≤ i → i ≤ 20 → Dr (.int i t)
  | str {x : Str} {t : Tok} : x ∈ texts → Dr (.str x t)
  | bytes {x : List UInt8} {t : Tok} : x ∈ blobs → Dr (.bytes x.toArray t)
theorem Dr.ok {v : Value} (h : Dr v) : Okv v := by
  cases h with
  | none => exact .none
  | int h1 h2 => exact .int (by omega) (by omega)
  | str h => exact .str h
  | bytes h => exact .bytes h
theorem take_ok {src : Addr} {top : Int} {tt : Tok} {C : Obj → Led} {Q : Value → Loc → Led → Prop} (hs : Src src C n)
    (h1 : 0 < top) (h2 : top < 50) (hr : 1 ≤ c.room)
    (h : ∀ d t n', Src src C n' → 0 ≤ d → d < top → Q (.int d t) l n') : CaV (.ref 207) [.ref src, .int top tt] c l n Q X := by
  obtain ⟨x, tx, y, ty, k, hp, h3, h4, h5⟩ := hs
  refine' W.callDef (binds := [(Str.ofString "source", .ref src), (Str.ofString "top", .int top tt)]) (xs := [Str.ofString "source", Str.ofString "top"]) ?ho ?hcd ?hbind rfl ?hok (by omega) ?_
  case ho => k_dflt k_is
  case hcd => k_dflt k_is
  case hbind => exact fun s _ => BindsTo.of_eq rfl
  case hok => decide +kernel
  intro c' hr' own' hz'
  change ExL _ c' _ _ _ _
  w_strict walk
  · exact RetK.of (h _ _ _ ⟨_, _, _, _, _, hp.again _, Int.fdiv_nonneg h3 (by omega), h4, h5⟩ (Int.fmod_nonneg_of_pos _ (by omega)) (Int.fmod_lt_of_pos _ h1)) Sel.refl
  · exact RetK.of (h _ _ _ ⟨_, _, _, _, _, hp.again _, h3, Int.fmod_nonneg_of_pos _ (by omega), Int.fmod_lt_of_pos _ (by omega)⟩ (Int.fmod_nonneg_of_pos _ (by omega)) (Int.fmod_lt_of_pos _ h1)) Sel.refl
theorem one_ok {src d : Addr} {its : List Value} {kd : Nat} {C : Obj → Led} {Q : Value → Loc → Led → Prop} (hs : Src src C n) (hm : Mm (d, listOf its.toArray kd) n) (ne : d ≠ src) (h1 : 0 < its.length) (h2 : its.length < 50) (hr : 2 ≤ c.room)
    (h : ∀ v n', v ∈ its → Src src C n' → Q v l n') : CaV (.ref 214) [.ref src, .ref d] c l n Q X := by
  refine' W.callDef (binds := [(Str.ofString "source", .ref src), (Str.ofString "things", .ref d)]) (xs := [Str.ofString "source", Str.ofString "things"]) ?ho ?hcd ?hbind rfl ?hok (by omega) ?_
  case ho => k_dflt k_is
  case hcd => k_dflt k_is
  case hbind => exact fun s _ => BindsTo.of_eq rfl
  case hok => decide +kernel
  intro c' hr' own' hz'
  change ExL _ c' _ _ _ _
  have hz : its.toArray.size ≤ sizeLine := by rw [sizeLine_eq, List.size_toArray]; omega
  w_strict walk
  refine take_ok hs (by rw [List.size_toArray]; omega) (by rw [List.size_toArray]; omega) (by omega) fun i t n' hs' i0 i1 => ?_
  rw [List.size_toArray] at i1
  have hm' := hs.other hs' hm ne
  have hi : i.toNat < its.length := by omega
  w_strict walk
  refine' SbT.list hm' i0 (.at i0 (by omega) (List.getElem?_eq_getElem hi)) ?_ ?hs ?ht
  case hs => rfl
  case ht => intro _; rfl
  w_strict walk
  exact RetK.of (h _ _ (List.getElem_mem hi) hs') Sel.refl
theorem value_ok {src : Addr} {C : Obj → Led} {Q : Value → Loc → Led → Prop} (hs : Src src C n) (hr : 3 ≤ c.room)
    (h : ∀ v n', Dr v → Src src C n' → Q v l n') : CaV (.ref 221) [.ref src] c l n Q X := by
  refine' W.callDef (binds := [(Str.ofString "source", .ref src)]) (xs := [Str.ofString "source"]) ?ho ?hcd ?hbind rfl ?hok (by omega) ?_
  case ho => k_dflt k_is
  case hcd => k_dflt k_is
  case hbind => exact fun s _ => BindsTo.of_eq rfl
  case hok => decide +kernel
  intro c' hr' own' hz'
  change ExL _ c' _ _ _ _
  w_strict walk
  refine take_ok hs (by omega) (by omega) (by omega) fun i t n1 hs1 i0 i1 => ?_
  w_strict walk
  · exact RetK.of (h _ _ .none hs1) Sel.refl
  · refine take_ok hs1 (by omega) (by omega) (by omega) fun i t n2 hs2 i0 i1 => ?_
    w_strict walk
    exact RetK.of (h _ _ (.int (by omega) (by omega)) hs2) Sel.refl
  · refine W.nodup fun hu => ?_
    refine one_ok hs1.cons .head (hs1.ne hu) (by show 0 < 10; decide) (by show 10 < 50; decide) (by omega) fun v n2 hv hs2 => ?_
    obtain ⟨n3, rfl, hs3⟩ := hs1.uncons hs2
    w_strict walk
    refine RetK.of (h v n3 ?_ hs3) (Sel.skip Sel.refl)
    simp only [List.mem_cons, List.not_mem_nil, or_false] at hv
    rcases hv with rfl | rfl | rfl | rfl | rfl | rfl | rfl | rfl | rfl | rfl <;> exact .str (by decide +kernel)
  · refine W.nodup fun hu => ?_
    refine one_ok hs1.cons.cons.cons.cons.cons .head (Src.ne hs1.cons.cons.cons.cons hu) (by show 0 < 4; decide) (by show 4 < 50; decide) (by omega) fun v n2 hv hs2 => ?_
    obtain ⟨o', rfl, hs3⟩ := Src.re hs1 hs2
    w_strict walk
    refine RetK.of (h v _ ?_ hs3) (Sel.skip (Sel.skip (Sel.skip (Sel.skip (Sel.skip Sel.refl)))))
    simp only [List.mem_cons, List.not_mem_nil, or_false] at hv
    rcases hv with rfl | rfl | rfl | rfl
    · exact .bytes (x := []) (by decide +kernel)
    · exact .bytes (x := [49]) (by decide +kernel)
    · exact .bytes (x := [97, 0]) (by decide +kernel)
    · exact .bytes (x := [255]) (by decide +kernel)
theorem big_ok {a : Int} {p : Prop} [Decidable p] : IntMulOk a (if p then 1 else 0) := by
  apply IntMulOk.of_right
  split <;> decide +kernel
local macro_rules | `(tactic| walk_at "BiO Mult int int") => `(tactic| (refine' BiO.mul_ii ?_ ?hm; (case hm => exact big_ok); intro _))
theorem pool_x {i : Int} {p : Prop} [Decidable p] : 0 ≤ (if -1 - i > i then -1 - i else i) * (if p then 1 else 0) := by
  split <;> split <;> omega
theorem pool_ok {Q : Value → Loc → Led → Prop} {sp : Addr} {vs : List Value} {ns : List Int} {kk : Int} {tk : Tok} (hb : c.h₀.IsList sp vs.toArray) (hi : IntsAre vs ns) (hz : ns.length ≤ 63) (hk : kk = 0 ∨ kk = 1 ∨ kk = 2) (hr : 1 ≤ c.room)
    (h : ∀ a x tx y ty, 0 ≤ x → 0 ≤ y → y < 2147483647 → Q (.ref a) l ((a, listOf #[.int x tx, .int y ty] 0) :: n)) : CaV (.ref 200) [.ref sp, .int kk tk] c l n Q X := by
  refine' W.callDef (binds := [(Str.ofString "script", .ref sp), (Str.ofString "k", .int kk tk)]) (xs := [Str.ofString "script", Str.ofString "k"]) ?ho ?hcd ?hbind rfl ?hok (by omega) ?_
  case ho => k_dflt k_is
  case hcd => k_dflt k_is
  case hbind => exact fun s _ => BindsTo.of_eq rfl
  case hok => decide +kernel
  intro c' hr' own' hz'
  change ExL _ c' _ _ _ _
  have hsz : vs.toArray.size ≤ sizeLine := by rw [sizeLine_eq, List.size_toArray, hi.length]; omega
  have hb' : c'.h₀.IsList sp vs.toArray := by rw [hz']; exact hb
  have len : ((vs.toArray.size : Nat) : Int) = ns.length := by rw [List.size_toArray, hi.length]
  have items : ∀ j : Nat, (j : Int) < ns.length → ∃ i t, vs.toArray[j]? = some (.int i t) := fun j hj => by
    obtain ⟨t, e⟩ := ints_at hi (i := j) (n := ns[j]'(by omega)) (by simp)
    exact ⟨_, t, by simpa using e⟩
  have k0 : 0 ≤ kk ∧ kk ≤ 2 := by omega
  have mk : ∀ a, IntMulOk a kk := fun a => IntMulOk.of_right (by rcases hk with rfl | rfl | rfl <;> decide +kernel)
  have m1 := mk 7919
  have m2 := mk (7919 * kk)
  have m3 := mk 31
  clear hk
  w_strict walk
  refine CaV.len_base hb' hsz fun t => ?_
  rw [len]
  w_strict walk
  · obtain ⟨i, t', e⟩ := items kk.toNat (by omega)
    refine' SbT.base (v := .int i t') hb' (by omega) (by omega) e ?_ ?hs ?ht
    case hs => rfl
    case ht => intro _; rfl
    w_strict walk
    exact RetK.of (h _ _ _ _ _ pool_x (Int.fmod_nonneg_of_pos _ (by omega)) (Int.fmod_lt_of_pos _ (by omega))) Sel.refl
  · exact RetK.of (h _ _ _ _ _ pool_x (Int.fmod_nonneg_of_pos _ (by omega)) (Int.fmod_lt_of_pos _ (by omega))) Sel.refl
end
-- part C17
section
variable {w : World} {sc : Scope} {c : Cx prg w (Mine.heap w.params) sc} {l : Loc} {n : Led} {X : Exc}
theorem comp_rowsN {elt : Expr} {x : Str} {px : Pos} {I d D : Addr} {o : Obj} {vs : List Value} {kd : Nat} {Fin : Loc → Led → Prop} {l : Loc} {n : Led} {f : Value → List Value} {sc₂ : Scope} {c₂ : Cx prg w (Mine.heap w.params) sc₂}
    (ho : LIt o d 0) (hd : Mm (d, listOf vs.toArray kd) n) (hz : vs.length ≤ 1000) (hk : sc₂.names.lookup x = some .local)
    (helt : ∀ (v : Value) (n₂ : Led) (Q : Value → Loc → Led → Prop), (∀ p, Mm p n → Mm p n₂) → (∀ a, Q (.ref a) [(x, v)] ((a, listOf (f v).toArray 0) :: n₂)) → EvE elt c₂ [(x, v)] n₂ Q NoX)
    (fin : ∀ l' outs m N, Mm (D, listOf outs.toArray m) N → (∀ p, Mm p n → Mm p N) → Sel n N → RowsAre f N outs vs → outs.length = vs.length → Fin l' N) : CoE elt x px [] (.ref I) D c₂ l ((D, listOf #[] 0) :: (I, o) :: n) Fin :=
  comp_rows ho hd.mem hz hk helt fun l' outs m e hR => fin l' outs m _ .head (fun p hp => (Mm.app_r hp).tail) (Sel.skip Sel.app_l) (hR.mono fun p hp => hp.tail) hR.len
theorem comp_mapN {elt : Expr} {x : Str} {px : Pos} {ifs : List Expr} {I d D : Addr} {o : Obj} {vs : List Value} {kd : Nat} {Fin : Loc → Led → Prop} {l : Loc} {n : Led} (R : Value → Value → Prop) (keep : Value → Bool) {sc₂ : Scope} {c₂ : Cx prg w (Mine.heap w.params) sc₂}
    (ho : LIt o d 0) (hd : Mm (d, listOf vs.toArray kd) n) (hz : vs.length ≤ 1000) (hk : sc₂.names.lookup x = some .local)
    (htest : ∀ (v : Value) (n₂ : Led) (A B : Loc → Led → Prop), v ∈ vs → (keep v = true → A [(x, v)] n₂) → (keep v = false → B [(x, v)] n₂) → TsL ifs c₂ [(x, v)] n₂ (brK A B) NoX)
    (helt : ∀ (v : Value) (n₂ : Led) (Q : Value → Loc → Led → Prop), v ∈ vs → keep v = true → (∀ y, R v y → Q y [(x, v)] n₂) → EvE elt c₂ [(x, v)] n₂ Q NoX)
    (fin : ∀ l' outs m N, Mm (D, listOf outs.toArray m) N → (∀ p, Mm p n → Mm p N) → Sel n N → All2 R (vs.filter keep) outs → Fin l' N) : CoE elt x px ifs (.ref I) D c₂ l ((D, listOf #[] 0) :: (I, o) :: n) Fin :=
  comp_map ho hd.mem hz hk htest helt fun l' outs m hA => fin l' outs m _ .head (fun p hp => hp.tail) (Sel.skip Sel.refl) hA
theorem All2.len {R : Value → Value → Prop} {vs ys : List Value} (h : All2 R vs ys) : ys.length = vs.length := by
  induction h with
  | nil => rfl
  | cons _ _ ih => simp [ih]
theorem All2.ints {vs ys : List Value} (h : All2 (fun v y => ∃ t, y = .int (num v) t) vs ys) : IntsAre ys (vs.map num) := by
  induction h with
  | nil => exact .nil
  | cons h _ ih => obtain ⟨t, rfl⟩ := h; exact .cons _ _ ih
theorem foldC0 (vs : List Value) : ∀ st : AgS, (vs.foldl stC0 st).m = st.m + vs.length := by
  induction vs with
  | nil => intro st; simp
  | cons v vs ih => intro st; rw [List.foldl_cons, ih]; show st.m + 1 + _ = _; rw [List.length_cons]; push_cast; omega
theorem foldC (vs : List Value) : ∀ st : AgS, (vs.foldl stC st).m = st.m + (vs.filter notNone).length := by
  induction vs with
  | nil => intro st; simp
  | cons v vs ih =>
    intro st
    rw [List.foldl_cons, ih]
    by_cases e : v = .none
    · subst e
      rw [List.filter_cons_of_neg (by decide)]
      rfl
    · rw [List.filter_cons_of_pos (by unfold notNone; rw [none_of e]; rfl), List.length_cons]
      unfold stC; rw [if_neg e]; show st.m + 1 + _ = _; push_cast; omega
theorem foldSum (vs : List Value) : ∀ st : AgS, (vs.foldl stS st).m = st.m + (vs.filter notNone).length ∧ (vs.foldl stS st).s = st.s + ((vs.filter notNone).map num).sum := by
  induction vs with
  | nil => intro st; simp
  | cons v vs ih =>
    intro st
    rw [List.foldl_cons, (ih _).1, (ih _).2]
    by_cases e : v = .none
    · subst e
      rw [List.filter_cons_of_neg (by decide)]
      exact ⟨rfl, rfl⟩
    · rw [List.filter_cons_of_pos (by unfold notNone; rw [none_of e]; rfl), List.length_cons, List.map_cons, List.sum_cons]
      unfold stS; rw [if_neg e]
      refine ⟨?_, ?_⟩
      · show st.m + 1 + _ = _; push_cast; omega
      · show st.s + num v + _ = _; omega
theorem Dr.num {v : Value} (h : Dr v) : -20 ≤ num v ∧ num v ≤ 20 := by
  cases h with
  | none => exact ⟨by decide, by decide⟩
  | int h1 h2 => exact ⟨h1, h2⟩
  | @str x t hx =>
    have key : ∀ x ∈ texts, -20 ≤ numS x ∧ numS x ≤ 20 := by decide +kernel
    exact key x hx
  | @bytes x t hx =>
    have key : ∀ x ∈ blobs, -20 ≤ numB x.toArray ∧ numB x.toArray ≤ 20 := by decide +kernel
    exact key x hx
theorem sum_bound : ∀ (vs : List Value), (∀ v ∈ vs, Dr v) → -20 * (vs.length : Int) ≤ (vs.map Mine.num).sum ∧ (vs.map Mine.num).sum ≤ 20 * (vs.length : Int)
  | [], _ => by simp
  | v :: vs, h => by
    have i := sum_bound vs fun u hu => h u (.tail _ hu)
    have d := (h v (.head _)).num
    rw [List.map_cons, List.sum_cons, List.length_cons]
    push_cast
    omega
end
-- part C18
section
variable {w : World} {sc : Scope} {c : Cx prg w (Mine.heap w.params) sc} {l : Loc} {n : Led} {X : Exc}
theorem counts_ok {Q : Value → Loc → Led → Prop} {d : Addr} {vs : List Value} {kd : Nat} (hd : Mm (d, listOf vs.toArray kd) n) (hv : ∀ v ∈ vs, Dr v) (hz : vs.length ≤ 5) (hr : 10 ≤ c.room) (h : Q (.bool true) l n) : CaV (.ref 278) [.ref d] c l n Q X := by
  refine' W.callDef (binds := [(Str.ofString "values", .ref d)]) (xs := [Str.ofString "values"]) ?ho ?hcd ?hbind rfl ?hok (by omega) ?_
  case ho => k_dflt k_is
  case hcd => k_dflt k_is
  case hbind => exact fun s _ => BindsTo.of_eq rfl
  case hok => decide +kernel
  intro c' hr' own' hz'
  change ExL _ c' _ _ _ _
  have sl : (1000 : Nat) ≤ sizeLine := by rw [sizeLine_eq]; decide
  have zv : vs.toArray.size ≤ sizeLine := by rw [List.size_toArray]; omega
  have ov : ∀ v ∈ vs, Okv v := fun v h => (hv v h).ok
  w_strict walk
  rename_i I1 o1 ho1 c1 D1 hc1 hcl1
  refine comp_mapN (vs := vs) (fun v y => y = v) notNone ho1 hd (by omega) (by decide +kernel) ?_ ?_ ?_
  · intro v n₂ A B hv hA hB
    by_cases e : v = .none
    · subst e
      w_strict walk
      exact hB rfl
    · skip
      have q := none_of e
      w_strict walk
      exact hA (by unfold notNone; rw [q]; rfl)
  · intro v n₂ Q hv hk hQ
    w_strict walk
    exact hQ _ rfl
  intro l' outs m N1 hD1 mono1 sel1 hall
  have hall := hall.eq
  subst hall
  have hd1 := mono1 _ hd
  refine ⟨_, by k_all, ?_⟩
  clear l'
  w_strict walk
  rename_i I2 o2 ho2 c2 D2 hc2 hcl2
  refine comp_rowsN (vs := vs) (f := fun v => [v]) ho2 hd1 (by omega) (by decide +kernel) ?_ ?_
  · intro v n₂ Q hm hQ
    w_strict walk
    exact hQ _
  intro l' rows m2 N2 hD2 mono2 sel2 hR hlen
  have hd2 := mono2 _ hd1
  have hD12 := mono2 _ hD1
  have sel2' := sel1.trans sel2
  refine ⟨_, by k_all, ?_⟩
  clear l'
  w_strict walk
  rename_i t1 t2 I3 o3 ho3 c3 D3 hc3 hcl3
  refine comp_rowsN (vs := vs) (f := fun v => []) ho3 hd2 (by omega) (by decide +kernel) ?_ ?_
  · intro v n₂ Q hm hQ
    w_strict walk
    exact hQ _
  intro l' rows0 m3 N3 hD3 mono3 sel3 hR0 hlen0
  have hd3 := mono3 _ hd2
  have hD13 := mono3 _ hD12
  have hD23 := mono3 _ hD2
  have hR3 := hR.mono mono3
  have sel3' := sel2'.trans sel3
  w_strict walk
  refine gather_count0 hD3.mem hR0 (by omega) fun a t => ?_
  w_strict walk
  refine CmO.ne_one (by k_mem) (by k_mem) (SameD.eqAt (by rw [foldC0, List.size_toArray]; simp only [st0, Int.zero_add]; exact .int)) ?_
  w_strict walk
  refine gather_count (hD23.tail.tail).mem (hR3.mono fun p hp => hp.tail.tail) (by omega) fun a t => ?_
  have zs : (vs.filter notNone).toArray.size ≤ sizeLine := by rw [List.size_toArray]; have := List.length_filter_le notNone vs; omega
  w_strict walk
  refine CmO.ne_one (by k_mem) (by k_mem) (SameD.eqAt (by rw [foldC, List.size_toArray]; simp only [st0, Int.zero_add]; exact .int)) ?_
  w_strict walk
  rename_i I4 o4 ho4 c4 D4 hc4 hcl4
  refine comp_mapN (vs := vs.filter notNone) (fun v y => ∃ t, y = .int (num v) t) (fun _ => true) ho4 (by k_mem) (by have := List.length_filter_le notNone vs; omega) (by decide +kernel) ?_ ?_ ?_
  · intro v n₂ A B hv hA hB
    w_strict walk
    exact hA rfl
  · intro v n₂ Q hv' hk hQ
    have hm := List.mem_filter.mp hv'
    have ne : v ≠ .none := fun e => by rw [e] at hm; exact absurd hm.2 (by decide)
    w_strict walk
    exact number_ok (hv v hm.1).ok ne (by omega) fun t => hQ _ ⟨t, rfl⟩
  intro l' outs m4 N4 hD4 mono4 sel4 hall4
  rw [List.filter_eq_self.mpr (fun _ _ => rfl)] at hall4
  have hints := hall4.ints
  have hD14 := mono4 _ (show Mm (D1, listOf (vs.filter notNone).toArray m) _ by k_mem)
  have hD24 := mono4 _ (show Mm (D2, listOf rows.toArray m2) _ by k_mem)
  have hR4 := hR3.mono (fun p hp => mono4 p hp.tail.tail.tail.tail)
  have sel4' : Sel n N4 := (sel3'.trans (Sel.skip (Sel.skip (Sel.skip (Sel.skip Sel.refl))))).trans sel4
  clear l'
  w_strict walk
  refine CaV.sum_l hD4 hints fun tsum => ?_
  have fs := foldSum vs st0
  have sb := sum_bound (vs.filter notNone) fun v h => hv v (List.mem_filter.mp h).1
  have lf := List.length_filter_le notNone vs
  have fs1 : (vs.foldl stS st0).m = (vs.filter notNone).length := by rw [fs.1]; simp [st0]
  have fs2 : (vs.foldl stS st0).s = ((vs.filter notNone).map num).sum := by rw [fs.2]; simp [st0]
  w_strict walk
  refine gather_sum (by simp) hD24.mem hR4 ov (by omega) (by omega) (by omega) fun a v hT => ?_
  unfold TSum at hT
  by_cases hf : vs.filter notNone = []
  · rw [hf] at hD14
    rw [fs1, hf, if_pos (by rfl), if_pos rfl] at hT
    subst hT
    w_strict walk
    refine CmO.ne_nil hD14.tail.tail .head ?_
    w_strict walk
    refine CmO.ne_one (by k_mem) (by k_mem) (SameD.eqAt .none) ?_
    w_strict walk
    refine gather_sum (by simp) (hD24.tail.tail.tail).mem (hR4.mono fun p hp => hp.tail.tail.tail) ov (by omega) (by omega) (by omega) fun a v hT => ?_
    unfold TSum at hT
    rw [fs1, hf, if_pos (by rfl), if_neg (by decide +kernel)] at hT
    obtain ⟨t', rfl⟩ := hT
    w_strict walk
    refine CmO.eq_one (by k_mem) (by k_mem) (SameD.eqAt (by rw [hf]; exact .int)) ?_
    w_strict walk
    exact RetK.of h (by first | exact sel4'.trans (Sel.skip (Sel.skip (Sel.skip (Sel.skip (Sel.skip (Sel.skip Sel.refl)))))) | exact sel4'.trans (Sel.skip (Sel.skip (Sel.skip (Sel.skip (Sel.skip Sel.refl))))))
  · have lp : 0 < (vs.filter notNone).length := List.length_pos_iff.mpr hf
    rw [fs1, fs2, if_neg (by omega)] at hT
    obtain ⟨t', rfl⟩ := hT
    w_strict walk
    refine CmO.ne_len hD14.tail.tail .head (by rw [List.size_toArray]; simp only [bne_iff_ne]; show (vs.filter notNone).length ≠ 0; omega) ?_
    w_strict walk
    refine CmO.ne_one (by k_mem) (by k_mem) (SameD.eqAt .int) ?_
    w_strict walk
    refine gather_sum (by simp) (hD24.tail.tail.tail).mem (hR4.mono fun p hp => hp.tail.tail.tail) ov (by omega) (by omega) (by omega) fun a v hT => ?_
    unfold TSum at hT
    rw [fs1, fs2, if_neg (by omega)] at hT
    obtain ⟨t', rfl⟩ := hT
    w_strict walk
    refine CmO.eq_one (by k_mem) (by k_mem) (SameD.eqAt .int) ?_
    w_strict walk
    exact RetK.of h (by first | exact sel4'.trans (Sel.skip (Sel.skip (Sel.skip (Sel.skip (Sel.skip (Sel.skip Sel.refl)))))) | exact sel4'.trans (Sel.skip (Sel.skip (Sel.skip (Sel.skip (Sel.skip Sel.refl))))))
end
-- part C19
section
variable {w : World} {sc : Scope} {c : Cx prg w (Mine.heap w.params) sc} {l : Loc} {n : Led} {X : Exc}
theorem foldS2 {a b : Int} {t u : Tok} : ([.int a t, .int b u] : List Value).foldl stS st0 = ⟨2, .none, a + b, []⟩ := by
  simp [stS, st0, num]
theorem foldS3 {a b d : Int} {t u v : Tok} : ([.int a t, .int b u, .int d v] : List Value).foldl stS st0 = ⟨3, .none, a + b + d, []⟩ := by
  simp [stS, st0, num]
theorem great_ok {Q : Value → Loc → Led → Prop} {src : Addr} {C : Obj → Led} (hs : Src src C n) (hr : 10 ≤ c.room) (h : ∀ n', Src src C n' → Q (.bool true) l n') : CaV (.ref 293) [.ref src] c l n Q X := by
  refine' W.callDef (binds := [(Str.ofString "source", .ref src)]) (xs := [Str.ofString "source"]) ?ho ?hcd ?hbind rfl ?hok (by omega) ?_
  case ho => k_dflt k_is
  case hcd => k_dflt k_is
  case hbind => exact fun s _ => BindsTo.of_eq rfl
  case hok => decide +kernel
  intro c' hr' own' hz'
  change ExL _ c' _ _ _ _
  w_strict walk
  refine take_ok hs (by omega) (by omega) (by omega) fun d t n1 hs1 d0 d1 => ?_
  w_strict walk
  rename_i tk0 _ _ tk G I1 o1 ho1 c1 D1 hc1 hcl1
  refine comp_rowsN (f := fun v => [v]) ho1 .head (by show 2 ≤ 1000; decide) (by decide +kernel) ?_ ?_
  · intro v n₂ Q hm hQ
    w_strict walk
    exact hQ _
  intro l' rows m1 N1 hD1 mono1 sel1 hR hlen
  have hG := mono1 _ .head
  have sel1' : Sel n1 N1 := (Sel.skip Sel.refl).trans sel1
  refine ⟨_, by k_all, ?_⟩
  clear l'
  have e63 : (2 : Int) ^ (63 : Int).toNat = 9223372036854775808 := by decide +kernel
  rw [e63] at hR hG
  w_strict walk
  refine gather_over hD1.mem hR (fun v hv => ?_) (by omega) ?_ ?_ fun a => ?_
  · simp only [List.mem_cons, List.not_mem_nil, or_false] at hv
    rcases hv with rfl | rfl <;> exact .int (by omega) (by omega)
  · rw [foldS2]; show (0 : Int) < 2; decide
  · rw [foldS2]; right; show (9223372036854775807 : Int) < 9223372036854775808 - 1 + (1 + d); omega
  w_strict walk
  refine CmO.ne_nil (by k_mem) (by k_mem) ?_
  w_strict walk
  refine gather_over (vs := [.int (-2 ^ (63 : Int).toNat) _, .int (-1) _]) (List.Mem.head _) (.cons (by k_mem) (.cons (by k_mem) .nil)) (fun v hv => ?_) (by omega) ?_ ?_ fun a => ?_
  · simp only [List.mem_cons, List.not_mem_nil, or_false] at hv
    rcases hv with rfl | rfl
    · exact .int (by rw [e63]; decide) (by rw [e63]; decide)
    · exact .int (by decide) (by decide)
  · rw [foldS2]; show (0 : Int) < 2; decide
  · rw [foldS2]; left; show -2 ^ (63 : Int).toNat + -1 < (-9223372036854775808 : Int); rw [e63]; decide
  w_strict walk
  refine CmO.ne_nil (by k_mem) (by k_mem) ?_
  w_strict walk
  have hlen2 : rows.length = 2 := hlen
  refine BiO.add_ll (its := rows.toArray) (by k_mem) .head (by rw [List.size_toArray, hlen2, sizeLine_eq]; show 2 + 1 ≤ _; decide) fun a => ?_
  rw [List.append_toArray]
  w_strict walk
  refine gather_sum (vs := [.int (9223372036854775808 - 1) tk0, .int (1 + d) tk] ++ [.int (-(1 + d)) _]) (by simp) (List.Mem.head _) ((hR.mono fun p hp => hp.tail.tail.tail.tail.tail.tail.tail.tail.tail.tail).snoc (by k_mem)) (fun v hv => ?_) (by omega) ?_ ?_ fun a v hT => ?_
  · simp only [List.mem_append, List.mem_cons, List.not_mem_nil, or_false] at hv
    rcases hv with (rfl | rfl) | rfl <;> exact .int (by omega) (by omega)
  · change _ ≤ (([_, _, _] : List Value).foldl stS st0).s
    rw [foldS3]; show (-9223372036854775808 : Int) ≤ 9223372036854775808 - 1 + (1 + d) + -(1 + d); omega
  · change (([_, _, _] : List Value).foldl stS st0).s ≤ _
    rw [foldS3]; show (9223372036854775808 : Int) - 1 + (1 + d) + -(1 + d) ≤ 9223372036854775807; omega
  · change TSum _ (([_, _, _] : List Value).foldl stS st0) v at hT
    rw [foldS3] at hT
    unfold TSum at hT
    rw [if_neg (by show ¬ (3 : Int) = 0; decide)] at hT
    obtain ⟨t', rfl⟩ := hT
    w_strict walk
    refine CmO.eq_one (by k_mem) (by k_mem) (SameD.eqAt (by rw [show (9223372036854775808 : Int) - 1 + (1 + d) + -(1 + d) = 9223372036854775808 - 1 by omega]; exact .int)) ?_
    w_strict walk
    exact RetK.of (h _ hs1) (by repeat (first | exact sel1' | refine Sel.skip ?_))
end
-- part C20
section
variable {w : World} {sc : Scope} {c : Cx prg w (Mine.heap w.params) sc} {l : Loc} {n : Led} {X : Exc}
def relB (k : Str) (least : Bool) (v b : Value) : Prop := if least = true then keyV k v < keyV k b else keyV k b < keyV k v
theorem relB.trans {k : Str} {least : Bool} {a b d : Value} (h : relB k least a b) (h' : relB k least b d) : relB k least a d := by
  unfold relB at *
  cases least
  · exact List.lt_trans h' h
  · exact List.lt_trans h h'
theorem relB.irr {k : Str} {least : Bool} {a : Value} : ¬ relB k least a a := by
  unfold relB
  cases least <;> exact List.lt_irrefl _
def InvB (k : Str) (least : Bool) (vs : List Value) (b : Value) : Prop := (b = .none ∧ ∀ v ∈ vs, v = .none) ∨ (b ≠ .none ∧ b ∈ vs ∧ ∀ v ∈ vs, v ≠ .none → ¬ relB k least v b)
open Classical in
noncomputable def updB (k : Str) (least : Bool) (b v : Value) : Value := if v = .none then b else if b = .none then v else if relB k least v b then v else b
open Classical in
theorem InvB.step {k : Str} {least : Bool} {vs : List Value} {b v : Value} (h : InvB k least vs b) : InvB k least (vs ++ [v]) (updB k least b v) := by
  unfold updB
  by_cases e : v = .none
  · rw [if_pos e]
    rcases h with ⟨h1, h2⟩ | ⟨h1, h2, h3⟩
    · refine .inl ⟨h1, fun u hu => ?_⟩
      rcases List.mem_append.mp hu with q | q
      · exact h2 u q
      · rw [List.mem_singleton.mp q]; exact e
    · refine .inr ⟨h1, List.mem_append_left _ h2, fun u hu ne => ?_⟩
      rcases List.mem_append.mp hu with q | q
      · exact h3 u q ne
      · rw [List.mem_singleton.mp q] at ne; exact absurd e ne
  · rw [if_neg e]
    rcases h with ⟨h1, h2⟩ | ⟨h1, h2, h3⟩
    · rw [if_pos h1]
      refine .inr ⟨e, List.mem_append_right _ (.head _), fun u hu ne => ?_⟩
      rcases List.mem_append.mp hu with q | q
      · exact absurd (h2 u q) ne
      · rw [List.mem_singleton.mp q]; exact relB.irr
    · rw [if_neg h1]
      by_cases r : relB k least v b
      · rw [if_pos r]
        refine .inr ⟨e, List.mem_append_right _ (.head _), fun u hu ne => ?_⟩
        rcases List.mem_append.mp hu with q | q
        · exact fun r' => h3 u q ne (r'.trans r)
        · rw [List.mem_singleton.mp q]; exact relB.irr
      · rw [if_neg r]
        refine .inr ⟨h1, List.mem_append_left _ h2, fun u hu ne => ?_⟩
        rcases List.mem_append.mp hu with q | q
        · exact h3 u q ne
        · rw [List.mem_singleton.mp q]; exact r
theorem InvB.same {k : Str} {least : Bool} {vs ws : List Value} {b : Value} (h : InvB k least vs b) (e : ∀ v, v ∈ vs ↔ v ∈ ws) : InvB k least ws b := by
  rcases h with ⟨h1, h2⟩ | ⟨h1, h2, h3⟩
  · exact .inl ⟨h1, fun v hv => h2 v ((e v).mpr hv)⟩
  · exact .inr ⟨h1, (e b).mp h2, fun v hv => h3 v ((e v).mpr hv)⟩
theorem InvB.alike {k : Str} {least : Bool} {vs : List Value} {a b : Value} (h : InvB k least vs a) (h' : InvB k least vs b) : alikeV k a b = true := by
  rcases h with ⟨h1, h2⟩ | ⟨h1, h2, h3⟩
  · rcases h' with ⟨g1, g2⟩ | ⟨g1, g2, g3⟩
    · subst h1 g1; rfl
    · exact absurd (h2 b g2) g1
  · rcases h' with ⟨g1, g2⟩ | ⟨g1, g2, g3⟩
    · exact absurd (g2 a h2) h1
    · have r1 := g3 a h2 h1
      have r2 := h3 b g2 g1
      unfold alikeV
      rw [none_of h1, none_of g1]
      unfold relB at r1 r2
      cases least
      · simp only [Bool.false_eq_true, if_false] at r1 r2
        show (!lessV k a b && !lessV k b a) = true
        unfold lessV; rw [decide_eq_false r2, decide_eq_false r1]; rfl
      · simp only [if_true] at r1 r2
        show (!lessV k a b && !lessV k b a) = true
        unfold lessV; rw [decide_eq_false r1, decide_eq_false r2]; rfl
theorem InvB.fold {k : Str} {least : Bool} {stp : Value → Value → Value} (hs : ∀ b v, stp b v = updB k least b v) : ∀ (vs done : List Value) (b : Value), InvB k least done b → InvB k least (done ++ vs) (vs.foldl stp b)
  | [], done, b, h => by rw [List.append_nil]; exact h
  | v :: vs, done, b, h => by
    have := InvB.fold hs vs (done ++ [v]) (stp b v) (by rw [hs]; exact h.step)
    rw [List.append_assoc] at this
    exact this
theorem lawBest_inv {k : Str} {least : Bool} (vs : List Value) : InvB k least vs (lawBest k least vs) := by
  have := InvB.fold (k := k) (least := least) (stp := lawStep k least) (fun b v => ?_) vs [] .none (.inl ⟨rfl, fun v hv => by cases hv⟩)
  · rw [List.nil_append] at this; exact this
  · unfold lawStep updB
    by_cases e : v = .none
    · subst e; rw [if_pos rfl]; rfl
    · rw [none_of e, if_neg e]
      by_cases e' : b = .none
      · subst e'; rw [if_pos rfl]; rfl
      · rw [none_of e', if_neg e']
        simp only [Bool.false_eq_true, if_false]
        unfold relB lessV
        cases least <;> simp
theorem sgn_lt {k : Str} {v b : Value} : sgnV k v b = -1 ↔ keyV k v < keyV k b := by
  unfold sgnV
  split
  · rename_i h; exact ⟨fun _ => h, fun _ => rfl⟩
  · rename_i h
    split
    · exact ⟨fun q => absurd q (by decide), fun q => absurd q h⟩
    · exact ⟨fun q => absurd q (by decide), fun q => absurd q h⟩
theorem sgn_gt {k : Str} {v b : Value} : sgnV k v b = 1 ↔ keyV k b < keyV k v := by
  unfold sgnV
  split
  · rename_i h; exact ⟨fun q => absurd q (by decide), fun q => absurd (List.lt_trans h q) (List.lt_irrefl _)⟩
  · rename_i h
    split
    · rename_i h'; exact ⟨fun _ => h', fun _ => rfl⟩
    · rename_i h'; exact ⟨fun q => absurd q (by decide), fun q => absurd q h'⟩
def GB (st : AgS) : Prop := 0 ≤ st.m ∧ (st.m = 0 ↔ st.best = .none)
theorem aggBest_inv {k : Str} {least : Bool} {sg : Int} (hsg : sg = if least = true then -1 else 1) (vs : List Value) : InvB k least vs (vs.foldl (stB k sg) st0).best := by
  have key : ∀ (vs done : List Value) (st : AgS), GB st → InvB k least done st.best → InvB k least (done ++ vs) (vs.foldl (stB k sg) st).best := by
    intro vs
    induction vs with
    | nil => intro done st _ h; rw [List.append_nil]; exact h
    | cons v vs ih =>
      intro done st g h
      have e1 : (stB k sg st v).best = updB k least st.best v := by
        unfold stB updB
        by_cases e : v = .none
        · rw [if_pos e, if_pos e]
        · rw [if_neg e, if_neg e]
          by_cases e' : st.m = 0
          · rw [if_pos e', if_pos (g.2.mp e')]
          · rw [if_neg e', if_neg fun q => e' (g.2.mpr q)]
            show betterV k sg v st.best = _
            unfold betterV relB
            subst hsg
            cases least
            · simp only [Bool.false_eq_true, if_false, sgn_gt]
            · simp only [if_true, sgn_lt]
      have g1 : GB (stB k sg st v) := by
        unfold stB
        by_cases e : v = .none
        · rw [if_pos e]; exact g
        · rw [if_neg e]
          have := g.1
          by_cases e' : st.m = 0
          · rw [if_pos e']; exact ⟨by show 0 ≤ st.m + 1; omega, fun q => by have : st.m + 1 = 0 := q; omega, fun q => absurd q e⟩
          · rw [if_neg e']
            refine ⟨by show 0 ≤ st.m + 1; omega, fun q => by have : st.m + 1 = 0 := q; omega, fun q => ?_⟩
            have nb : st.best ≠ .none := fun q => e' (g.2.mpr q)
            have : betterV k sg v st.best = .none := q
            unfold betterV at this
            split at this
            · exact absurd this e
            · exact absurd this nb
      have := ih (done ++ [v]) (stB k sg st v) g1 (by rw [e1]; exact h.step)
      rw [List.append_assoc] at this
      exact this
  have := key vs [] st0 ⟨by decide, fun _ => rfl, fun _ => rfl⟩ (.inl ⟨rfl, fun v hv => by cases hv⟩)
  rw [List.nil_append] at this
  exact this
theorem bests_alike {k : Str} {least : Bool} {sg : Int} (hsg : sg = if least = true then -1 else 1) {vs ws : List Value} (e : ∀ v, v ∈ vs ↔ v ∈ ws) : alikeV k (vs.foldl (stB k sg) st0).best (lawBest k least ws) = true :=
  ((aggBest_inv hsg vs).same e).alike (lawBest_inv ws)
end
-- part NtT
section
variable {pr : Program} {w : World} {K : Frag} {sc : Scope} {c : Cx pr w K sc} {l : Loc} {n : Led} {X : Exc}
def LgT (target : Expr) (it v : Value) (c : Cx pr w K sc) (l : Loc) (n : Led) (Q : Unit → Loc → Led → Prop) (X : Exc) : Prop := W (letOwnedTupleGo target it v) c l n Q X
theorem LgT.list {elts : List Expr} {k : Nat} {pos : Pos} {I d T : Addr} {i : Nat} {o : Obj} {Q : Unit → Loc → Led → Prop} (hm : Mm (I, o) n) (ho : LIt o d i) (h : Q () l n) : LgT (.Tuple elts k pos) (.ref I) (.ref T) c l n Q X :=
  fun s₀ s m z => wpAny_letOwnedTupleGo_listiter ⟨o, z.N.get hm.mem, ho.1, ho.2⟩ (z.end h)
theorem SbT.headT {d : Addr} {r : List Value} {k : Nat} {t : Tok} {v : Value} {value slice : Expr} {Q : Value → Loc → Led → Prop} (hm : Mm (d, listOf (v :: r).toArray k) n) (h : Q v l n)
    (hs : subscripted slice false (.ref d) (.int 0 t) = operate [.ref d, .int 0 t] (getItem (.ref d) (.int 0 t)) := by with_unfolding_all rfl) : SbT (.ref d) (.int 0 t) value slice c l n Q X := by
  intro s₀ s m z
  exact tail_any (z.isL hm).typeIs slot_list_getitem.lookup (wpAny_getItem_list (z.isL hm) (by decide) (by decide) (x := v) (by rfl) (z.end h)) hs
/-- a `for` with k turns at most, from its next turn on; its target a tuple -/
def FoLT (target : Expr) (it : Value) (body orelse : List Stmt) (c : Cx pr w K sc) (Q : Flow → Loc → Led → Prop) : Nat → Loc → Led → Prop
  | 0, _, _ => False
  | k + 1, l, n => NxT it c l n (nextK (fun l n => ExL orelse c l n Q NoX) (fun v l n => LgT target it v c l n (fun _ l n => AsT target v c l n (fun _ l n => ExL body c l n (loopK (FoLT target it body orelse c Q k) Q) NoX) NoX) NoX)) NoX
def FoET (target : Expr) (it : Value) (body orelse : List Stmt) (c : Cx pr w K sc) (l : Loc) (n : Led) (Q : Flow → Loc → Led → Prop) : Prop := ∃ k, FoLT target it body orelse c Q k l n
theorem FoLT.turn {target : Expr} {it : Value} {body orelse : List Stmt} {Q : Flow → Loc → Led → Prop} {k : Nat}
    (h : NxT it c l n (nextK (fun l n => ExL orelse c l n Q NoX) (fun v l n => LgT target it v c l n (fun _ l n => AsT target v c l n (fun _ l n => ExL body c l n (loopK (FoLT target it body orelse c Q k) Q) NoX) NoX) NoX)) NoX) : FoLT target it body orelse c Q (k + 1) l n := h
theorem FoET.of {target : Expr} {it : Value} {body orelse : List Stmt} {Q : Flow → Loc → Led → Prop} (k : Nat) (h : FoLT target it body orelse c Q k l n) : FoET target it body orelse c l n Q := ⟨k, h⟩
theorem ExS.forT {elts : List Expr} {kt : Nat} {pt : Pos} {iter : Expr} {body orelse : List Stmt} {pos : Pos} {Q : Flow → Loc → Led → Prop} (h : EvE iter c l n (fun v l n => ItR v c l n (fun it l n => FoET (.Tuple elts kt pt) it body orelse c l n Q) X) X)
    (hs : ∀ x, foldedSetIterable iter c.env x = pure x := by intro _; rfl) : ExS (.For (.Tuple elts kt pt) iter body orelse pos) c l n Q X := by
  intro s₀ s m z
  refine wpAny_For (W.use h z fun v s₁ m₁ l₁ n₁ z₁ h₁ => W.use h₁ z₁ fun it s₂ m₂ l₂ n₂ z₂ ⟨k, h₂⟩ => ?_) hs
  refine codeAny_forLoop_any (fun k s => ∃ m l n, At c s₀ s m l n ∧ FoLT (.Tuple elts kt pt) it body orelse c Q k l n) (fun k s ⟨m, l, n, z, h⟩ => ?_) k ⟨m₂, l₂, n₂, z₂, h₂⟩
  cases k with
  | zero => exact h.elim
  | succ k =>
    refine wpAny_noRaise (wpAny_mono (h s₀ s m z) (fun r s₁ ⟨m₁, l₁, n₁, z₁, q⟩ => ?_) fun _ _ f => f)
    cases r with
    | none => exact wpAny_noRaise (wpAny_mono (q s₀ s₁ m₁ z₁) (fun f s₂ hf => hf) fun _ _ f => f)
    | some v =>
      refine wpAny_noRaise (wpAny_mono (q s₀ s₁ m₁ z₁) (fun _ s₁' ⟨m₁', l₁', n₁', z₁', q₁⟩ => ?_) fun _ _ f => f)
      refine wpAny_noRaise (wpAny_mono (q₁ s₀ s₁' m₁' z₁') (fun _ s₂ ⟨m₂, l₂, n₂, z₂, q₂⟩ => ?_) fun _ _ f => f)
      refine wpAny_noRaise (wpAny_mono (q₂ s₀ s₂ m₂ z₂) (fun f s₃ ⟨m₃, l₃, n₃, z₃, q₃⟩ => ?_) fun _ _ f => f)
      cases f with
      | next => exact ⟨k, Nat.lt_succ_self _, m₃, l₃, n₃, z₃, q₃⟩
      | cont => exact ⟨k, Nat.lt_succ_self _, m₃, l₃, n₃, z₃, q₃⟩
      | brk => exact z₃.end q₃
      | ret v => exact z₃.end q₃
end
local macro_rules | `(tactic| walk_at "ExS For") => `(tactic| (with_reducible refine' ExS.forT ?_ ?hs; (case hs => walk_at "u")))
local macro_rules | `(tactic| walk_at "last SbT ref int") => `(tactic| (refine' SbT.headT ?hm ?_ ?hs; (case hm => k_mem); (case hs => with_unfolding_all rfl)))
local macro_rules | `(tactic| walk_at "FoLT") => `(tactic| refine FoLT.turn ?_)
local macro_rules | `(tactic| walk_at "LgT") => `(tactic| (refine' LgT.list ?hm ?ho ?_; (case hm => k_mem); (case ho => with_reducible assumption)))
-- part C21
section
variable {w : World} {sc : Scope} {c : Cx prg w (Mine.heap w.params) sc} {l : Loc} {n : Led} {X : Exc}
theorem GtM.upper {x : Str} {t : Tok} {pl : Sem Bool} {Q : Value × List Value → Loc → Led → Prop} (h : Q (.builtin "str.upper", [.str x t]) l n) : GtM (.str x t) (Str.ofString "upper") pl c l n Q X := by
  intro s₀ s m z; with_reducible exact PySem.GM.upper (z.end h)
theorem CaV.upper {x y : Str} {t : Tok} {Q : Value → Loc → Led → Prop} (e : Txt.upper x = y) (hz : Builtin.Str.tooLong (Txt.upper x).length = false) (h : ∀ k, Q (.str y k) l n) : CaV (.builtin "str.upper") [.str x t] c l n Q X := by
  intro s₀ s m z; with_reducible exact KXw.upper e hz fun t' k => (z.toks _).end (h _)
local macro_rules | `(tactic| walk_at "GtM str") => `(tactic| refine GtM.upper ?_)
local macro_rules | `(tactic| walk_at "CaV builtin:str.upper") => `(tactic| first
  | (refine' CaV.upper (y := Str.ofString "MIN") ?he ?hz ?_; (case he => decide +kernel); (case hz => decide +kernel); intro _)
  | (refine' CaV.upper (y := Str.ofString "MAX") ?he ?hz ?_; (case he => decide +kernel); (case hz => decide +kernel); intro _))
theorem best_ok {vs : List Value} {k : Str} {sg : Int} (ov : ∀ v ∈ vs, Okv v) : Okv (vs.foldl (stB k sg) st0).best :=
  (fold_inv (G := GBest) (vs := vs) (st := st0) ⟨by decide, .none, fun _ => rfl, fun q => absurd rfl q⟩ fun st v hv g => g.step (ov v hv)).2.1
theorem lawBest_ok {vs : List Value} {k : Str} {least : Bool} (ov : ∀ v ∈ vs, Okv v) : Okv (lawBest k least vs) := by
  rcases lawBest_inv (k := k) (least := least) vs with ⟨h, _⟩ | ⟨_, h, _⟩
  · rw [h]; exact .none
  · exact ov _ h
theorem bests_ok {Q : Value → Loc → Led → Prop} {d : Addr} {vs : List Value} {kd : Nat} {k : Str} {t : Tok} (hk : k ∈ colls) (hd : Mm (d, listOf vs.toArray kd) n) (hv : ∀ v ∈ vs, Dr v) (hz : vs.length ≤ 5) (hr : 12 ≤ c.room) (h : Q (.bool true) l n) : CaV (.ref 283) [.ref d, .str k t] c l n Q X := by
  refine' W.callDef (binds := [(Str.ofString "values", .ref d), (Str.ofString "collation", .str k t)]) (xs := [Str.ofString "values", Str.ofString "collation"]) ?ho ?hcd ?hbind rfl ?hok (by omega) ?_
  case ho => k_dflt k_is
  case hcd => k_dflt k_is
  case hbind => exact fun s _ => BindsTo.of_eq rfl
  case hok => decide +kernel
  intro c' hr' own' hz'
  change ExL _ c' _ _ _ _
  have ov : ∀ v ∈ vs, Okv v := fun v h => (hv v h).ok
  have ovr : ∀ v ∈ vs.reverse, Okv v := fun v h => ov v (List.mem_reverse.mp h)
  have zl : vs.length ≤ sizeLine := by rw [sizeLine_eq]; omega
  w_strict walk
  rename_i I1 o1 ho1 c1 D1 hc1 hcl1
  refine comp_rowsN (vs := vs) (f := fun v => [v]) ho1 hd (by omega) (by decide +kernel) ?_ ?_
  · intro v n₂ Q hm hQ
    w_strict walk
    exact hQ _
  intro l' rows m1 N1 hD1 mono1 sel1 hR hlen
  have hd1 := mono1 _ hd
  clear l'
  w_strict walk
  rename_i R1 I2 o2 ho2 c2 D2 hc2 hcl2
  refine comp_rowsN (vs := vs.reverse) (f := fun v => [v]) ho2 .head (by rw [List.length_reverse]; omega) (by decide +kernel) ?_ ?_
  · intro v n₂ Q hm hQ
    w_strict walk
    exact hQ _
  intro l' turned m2 N2 hD2 mono2 sel2 hR2 hlen2
  have hd2 := mono2 _ hd1.tail
  have hD12 := mono2 _ hD1.tail
  have hR1 := hR.mono fun p hp => mono2 p hp.tail
  have sel : Sel n N2 := (sel1.trans (Sel.skip Sel.refl)).trans sel2
  clear l'
  w_strict walk
  refine FoET.of 3 ?_
  w_strict walk
  refine law_best_ok (c := c') (show Mm (d, listOf vs.toArray kd) _ by k_mem).mem ov hk (by omega) ?_
  w_strict walk
  refine gather_best (c := c') (word := Str.ofString "min") (by decide +kernel) (by decide +kernel) (by simp) hk (show Mm (D1, listOf rows.toArray m1) _ by k_mem).mem (hR1.mono fun p hp => by repeat (first | exact hp | refine Mm.tail ?_)) ov (by omega) fun a => ?_
  w_strict walk
  refine alike_ok (c := c') (best_ok ov) (lawBest_ok ov) hk (by omega) ?_
  rw [bests_alike (least := true) (by decide +kernel) (fun v => Iff.rfl)]
  w_strict walk
  refine gather_best (c := c') (word := Str.ofString "min") (by decide +kernel) (by decide +kernel) (by simp) hk (show Mm (D2, listOf turned.toArray m2) _ by k_mem).mem (hR2.mono fun p hp => by repeat (first | exact hp | refine Mm.tail ?_)) ovr (by omega) fun a => ?_
  w_strict walk
  refine alike_ok (c := c') (best_ok ovr) (lawBest_ok ov) hk (by omega) ?_
  rw [bests_alike (least := true) (by decide +kernel) (fun v => List.mem_reverse)]
  w_strict walk
  refine law_best_ok (c := c') (show Mm (d, listOf vs.toArray kd) _ by k_mem).mem ov hk (by omega) ?_
  w_strict walk
  refine gather_best (c := c') (word := Str.ofString "max") (by decide +kernel) (by decide +kernel) (by simp) hk (show Mm (D1, listOf rows.toArray m1) _ by k_mem).mem (hR1.mono fun p hp => by repeat (first | exact hp | refine Mm.tail ?_)) ov (by omega) fun a => ?_
  w_strict walk
  refine alike_ok (c := c') (best_ok ov) (lawBest_ok ov) hk (by omega) ?_
  rw [bests_alike (least := false) (by decide +kernel) (fun v => Iff.rfl)]
  w_strict walk
  refine gather_best (c := c') (word := Str.ofString "max") (by decide +kernel) (by decide +kernel) (by simp) hk (show Mm (D2, listOf turned.toArray m2) _ by k_mem).mem (hR2.mono fun p hp => by repeat (first | exact hp | refine Mm.tail ?_)) ovr (by omega) fun a => ?_
  w_strict walk
  refine alike_ok (c := c') (best_ok ovr) (lawBest_ok ov) hk (by omega) ?_
  rw [bests_alike (least := false) (by decide +kernel) (fun v => List.mem_reverse)]
  w_strict walk
  exact RetK.of h (by repeat (first | exact sel | refine Sel.skip ?_))
end
-- part C22
section
variable {w : World} {sc : Scope} {c : Cx prg w (Mine.heap w.params) sc} {l : Loc} {n : Led} {X : Exc}
theorem glue_one (a : Str) : Txt.join (Str.ofString "") [a] = a := rfl
theorem glue_two {ps : List Str} (a b : Str) (h : ps ≠ []) : Txt.join (Str.ofString "") (ps ++ [a, b]) = Txt.join (Str.ofString "") ps ++ a ++ b := by
  cases ps with
  | nil => exact absurd rfl h
  | cons p r =>
    show Builtin.Str.glued _ _ = _
    unfold Builtin.Str.glued
    have e : (Str.ofString "").cps = #[] := rfl
    have e1 : (p :: r ++ [a, b]).drop 1 = r ++ [a, b] := rfl
    rw [e1, List.foldl_append]
    show (⟨_⟩ : Str) = _
    apply congrArg Str.mk
    simp only [List.foldl_cons, List.foldl_nil, e, Array.append_empty]
    rfl
def dueStep (put : Str) (due : Option Str) (t : Str) : Option Str := match due with
  | none => some t
  | some s => some (s ++ put ++ t)
def dueVal (t : Tok) : Option Str → Value
  | none => .none
  | some s => .str s t
def keepT (v : Value) : Bool := notNone v && (match v with | .bytes _ _ => false | _ => true)
def keepK (v : Value) : Bool := match v with | .bytes _ _ => false | _ => true
def JI (st : AgS) (due : Option Str) : Prop := (st.m = 0 ∧ st.ps = [] ∧ due = none) ∨ (0 < st.m ∧ st.ps ≠ [] ∧ due = some (Txt.join (Str.ofString "") st.ps))
theorem joined_law {put : Str} : ∀ (vs : List Value) (st : AgS) (due : Option Str), JI st due → JI ((vs.filter keepK).foldl (stG put) st) (((vs.filter keepT).map txtV).foldl (dueStep put) due)
  | [], st, due, h => h
  | v :: vs, st, due, h => by
    by_cases e : v = .none
    · subst e
      rw [List.filter_cons_of_pos (by rfl), List.filter_cons_of_neg (by decide), List.foldl_cons]
      exact joined_law vs st due h
    · by_cases hb : keepK v = true
      · have ht : keepT v = true := by
          unfold keepT; rw [show notNone v = true by unfold notNone; rw [none_of e]; rfl, Bool.true_and]; exact hb
        rw [List.filter_cons_of_pos hb, List.filter_cons_of_pos ht, List.map_cons, List.foldl_cons, List.foldl_cons]
        refine joined_law vs _ _ ?_
        unfold stG
        rw [if_neg e]
        rcases h with ⟨h1, h2, rfl⟩ | ⟨h1, h2, rfl⟩
        · refine .inr ⟨by show 0 < st.m + 1; omega, ?_, ?_⟩
          · show (if st.ps = [] then [txtV v] else _) ≠ []
            rw [if_pos h2]; simp
          · show some (txtV v) = some (Txt.join _ (if st.ps = [] then [txtV v] else _))
            rw [if_pos h2]; rfl
        · refine .inr ⟨by show 0 < st.m + 1; omega, ?_, ?_⟩
          · show (if st.ps = [] then [txtV v] else st.ps ++ [put, txtV v]) ≠ []
            rw [if_neg h2]; simp
          · show some (_ ++ put ++ txtV v) = some (Txt.join _ (if st.ps = [] then [txtV v] else st.ps ++ [put, txtV v]))
            rw [if_neg h2, glue_two _ _ h2]
      · have hb' : keepK v = false := by simpa using hb
        have ht : ¬ keepT v = true := by
          unfold keepT; intro q; rw [Bool.and_eq_true] at q; exact hb q.2
        rw [List.filter_cons_of_neg hb, List.filter_cons_of_neg ht]
        exact joined_law vs st due h
theorem joined_law0 {put : Str} (vs : List Value) : JI ((vs.filter keepK).foldl (stG put) st0) (((vs.filter keepT).map txtV).foldl (dueStep put) none) := joined_law vs st0 none (.inl ⟨rfl, rfl, rfl⟩)
theorem txt_int_len : ∀ i : Fin 41, (Str.ofString (toString ((i.1 : Int) - 20))).length ≤ 5 := by decide +kernel
theorem txt_len {v : Value} (h : Dr v) : (txtV v).length ≤ 5 := by
  cases h with
  | none => decide
  | @int i t h1 h2 =>
    have := txt_int_len ⟨(i + 20).toNat, by omega⟩
    rw [show (((i + 20).toNat : Nat) : Int) - 20 = i by omega] at this
    exact this
  | @str x t hx =>
    have key : ∀ x ∈ texts, x.length ≤ 5 := by decide +kernel
    exact key x hx
  | bytes h => exact Nat.zero_le _
theorem stG_sum {sep : Str} (hs : sep.length ≤ 5) : ∀ (vs : List Value) (st : AgS), (∀ v ∈ vs, (txtV v).length ≤ 5) → ((vs.foldl (stG sep) st).ps.map (·.length)).sum ≤ (st.ps.map (·.length)).sum + 10 * vs.length
  | [], st, _ => by simp
  | v :: vs, st, h => by
    have h1 : ((stG sep st v).ps.map (·.length)).sum ≤ (st.ps.map (·.length)).sum + 10 := by
      have hv := h v (.head _)
      unfold stG
      split
      · omega
      · show ((if st.ps = [] then [txtV v] else st.ps ++ [sep, txtV v]).map (·.length)).sum ≤ _
        split
        · simp; omega
        · simp; omega
    have := stG_sum hs vs (stG sep st v) fun u hu => h u (.tail _ hu)
    rw [List.foldl_cons, List.length_cons]
    omega
end
-- part C23
section
variable {w : World} {sc : Scope} {c : Cx prg w (Mine.heap w.params) sc} {l : Loc} {n : Led} {X : Exc}
local macro_rules | `(tactic| walk_at "of C23") => `(tactic| skip)
theorem closure_of {scope : Scope} {env : Env} {cs : List (Str × Addr)} (h : env.cells = cs) : closureFor scope env = closureFor scope { env with cells := cs } := by
  unfold closureFor cellOf
  rw [h]
local macro_rules | `(tactic| walk_at "EvE Name") => `(tactic| (refine' EvE.cell ?hk ?hc ?hm ?ho ?_ ?hd; (case hk => decide +kernel); (case hc => assumption); (case hm => k_mem); (case ho => assumption); (case hd => decide +kernel)))
local macro_rules | `(tactic| walk_at "EvE ListComp") => `(tactic| (refine' EvE.listComp ?hF ?hcl ?_; (case hF => exact CoF.of (by decide +kernel)); (case hcl => first | with_unfolding_all rfl | exact (closure_of (by assumption)).trans (by with_unfolding_all rfl))))
theorem str_len (a b : Str) : (a ++ b).length = a.length + b.length := by
  show (a.cps ++ b.cps).size = _
  rw [Array.size_append]; rfl
theorem due_len {put : Str} (hp : put.length ≤ 5) : ∀ (ts : List Str) (due : Option Str) (k : Nat), (∀ t ∈ ts, t.length ≤ 5) → (∀ s, due = some s → s.length ≤ 10 * k) → ∀ s, ts.foldl (dueStep put) due = some s → s.length ≤ 10 * (k + ts.length)
  | [], due, k, _, h, s, e => by simpa using h s e
  | t :: ts, due, k, ht, h, s, e => by
    have := due_len hp ts (dueStep put due t) (k + 1) (fun u hu => ht u (.tail _ hu)) (fun s hs => ?_) s e
    · rw [List.length_cons]; omega
    · have h5 := ht t (.head _)
      cases due with
      | none => cases hs; omega
      | some s' =>
        cases hs
        have := h s' rfl
        rw [str_len, str_len]
        omega
theorem Dr.okt {v : Value} (h : Dr v) (hb : keepK v = true) : v = .none ∨ Okt v := by
  cases h with
  | none => exact .inl rfl
  | int h1 h2 => exact .inr (.int h1 h2)
  | str h => exact .inr .str
  | bytes h => exact absurd hb (by simp [keepK])
theorem All2.strs {vs ys : List Value} (h : All2 (fun v y => ∃ t, y = .str (txtV v) t) vs ys) : StrsAre ys (vs.map txtV) := by
  induction h with
  | nil => exact .nil
  | cons h _ ih => obtain ⟨t, rfl⟩ := h; exact .cons _ _ ih
theorem law_text_ok {Q : Value → Loc → Led → Prop} {v : Value} (hv : Okt v) (hr : 1 ≤ c.room) (h : ∀ t, Q (.str (txtV v) t) l n) : CaV (.ref 247) [v] c l n Q X := by
  cases hv with
  | int h1 h2 => exact text_int hr (log_small h1 h2) h
  | str => exact text_str hr (h _)
def DueIs : Option Str → Value → Prop
  | none, v => v = .none
  | some s, v => ∃ t, v = .str s t
theorem strs_at : ∀ {vs : List Value} {ys : List Str}, StrsAre vs ys → ∀ {i : Nat} {v : Value}, vs[i]? = some v → ∃ y t, v = .str y t ∧ ys[i]? = some y
  | _, _, .nil, i, v, e => by simp at e
  | _, _, .cons y t _, 0, v, e => by simp at e; subst e; exact ⟨y, t, rfl, rfl⟩
  | _, _, .cons y t h, i + 1, v, e => by simpa using strs_at h (by simpa using e)
theorem strs_len : ∀ {vs : List Value} {ys : List Str}, StrsAre vs ys → ys.length = vs.length
  | _, _, .nil => rfl
  | _, _, .cons _ _ h => by simp [strs_len h]
def dueAt (put : Str) (ys : List Str) (k : Nat) : Option Str := (ys.take k).foldl (dueStep put) none
theorem dueAt_succ {put : Str} {ys : List Str} {k : Nat} {y : Str} (h : ys[k]? = some y) : dueAt put ys (k + 1) = dueStep put (dueAt put ys k) y := by
  unfold dueAt
  rw [List.take_add_one, h, List.foldl_append]; rfl
theorem dueAt_all {put : Str} {ys : List Str} : dueAt put ys ys.length = ys.foldl (dueStep put) none := by
  unfold dueAt; rw [List.take_length]
theorem dueAt_len {put : Str} {ys : List Str} {k : Nat} {s : Str} (hp : put.length ≤ 5) (hy : ∀ t ∈ ys, t.length ≤ 5) (hl : ys.length ≤ 5) (h : dueAt put ys k = some s) : s.length ≤ 50 := by
  have := due_len hp (ys.take k) none 0 (fun t ht => hy t (List.mem_of_mem_take ht)) (fun s e => by cases e) s h
  have : (ys.take k).length ≤ ys.length := by rw [List.length_take]; omega
  omega
theorem joined_end {put : Str} {vs : List Value} {v dv : Value} (hT : TCat ((vs.filter keepK).foldl (stG put) st0) v) (hD : DueIs (dueAt put ((vs.filter keepT).map txtV) ((vs.filter keepT).map txtV).length) dv) : SameD v dv := by
  rw [dueAt_all] at hD
  unfold TCat at hT
  rcases joined_law0 (put := put) vs with ⟨h1, h2, h3⟩ | ⟨h1, h2, h3⟩
  · rw [if_pos h1] at hT
    rw [h3] at hD
    subst hT
    have : dv = .none := hD
    subst this; exact .none
  · rw [if_neg (by omega)] at hT
    rw [h3] at hD
    obtain ⟨t, rfl⟩ := hT
    obtain ⟨u, rfl⟩ := hD
    exact .str
theorem joined_ok {Q : Value → Loc → Led → Prop} {d : Addr} {vs : List Value} {kd : Nat} {bv : Value} (hb : SepOk bv) (hd : Mm (d, listOf vs.toArray kd) n) (hv : ∀ v ∈ vs, Dr v) (hz : vs.length ≤ 5) (hr : 12 ≤ c.room) (h : Q (.bool true) l n) : CaV (.ref 288) [.ref d, bv] c l n Q X := by
  refine' W.callCell (binds := [(Str.ofString "values", .ref d), (Str.ofString "between", bv)]) (y := Str.ofString "between") (v₀ := some bv) (l' := [(Str.ofString "values", .ref d)]) ?ho ?hcd ?hbind ?hok ?hcs ?hyk ?hL ?hC (by omega) ?_
  case ho => k_dflt k_is
  case hcd => k_dflt k_is
  case hbind => rfl
  case hok => (show okCells _ [Str.ofString "values", Str.ofString "between"] = true; decide +kernel)
  case hcs => intro k; rfl
  case hyk =>
    intro x hx e
    simp only [List.mem_cons, List.not_mem_nil, or_false] at hx
    rcases hx with rfl | rfl
    · change List.lookup (Str.ofString "values") _ = _ at e
      exact absurd e (by decide +kernel)
    · rfl
  case hL =>
    intro p hp
    cases hp with
    | head => rfl
    | tail h => cases h
  case hC => rfl
  intro c' bc o hr' hcells hz' hod
  change ExL _ c' _ _ _ _
  have hlk : c'.cells.lookup (Str.ofString "between") = some bc := by rw [hcells]; rfl
  have ov : ∀ v ∈ vs, Okv v := fun v h => (hv v h).ok
  w_strict walk
  rename_i I1 o1 ho1 c1 D1 hc1 hcl1
  refine comp_mapN (vs := vs) (fun v y => ∃ t, y = .str (txtV v) t) keepT ho1 (by k_mem) (by omega) (by decide +kernel) ?_ ?_ ?_
  · intro v n₂ A B hvv hA hB
    have dv := hv v hvv
    cases dv with
    | none =>
      w_strict walk
      exact hB rfl
    | int h1 h2 =>
      w_strict walk
      exact hA rfl
    | str hx =>
      w_strict walk
      exact hA rfl
    | bytes hx =>
      w_strict walk
      exact hB rfl
  · intro v n₂ Q hvv hk hQ
    have hk2 : notNone v = true ∧ keepK v = true := by
      unfold keepT at hk; rw [Bool.and_eq_true] at hk; exact hk
    have ot := ((hv v hvv).okt hk2.2).resolve_left fun e => by rw [e] at hk2; exact absurd hk2.1 (by decide)
    w_strict walk
    exact law_text_ok ot (by omega) fun t => hQ _ ⟨t, rfl⟩
  intro l' some m1 N1 hD1 mono1 sel1 hall1
  have hs1 := hall1.strs
  have hd1 := mono1 _ hd.tail
  have hbc1 := mono1 _ .head
  have sl1 : Sel n N1 := (Sel.skip Sel.refl).trans sel1
  refine ⟨_, by k_all, ?_⟩
  clear l'
  w_strict walk
  rename_i I2 o2 ho2 c2 D2 hc2 hcl2
  refine comp_mapN (vs := vs) (fun v y => y = v) keepK ho2 hd1 (by omega) (by decide +kernel) ?_ ?_ ?_
  · intro v n₂ A B hvv hA hB
    have dv := hv v hvv
    cases dv with
    | none =>
      w_strict walk
      exact hA rfl
    | int h1 h2 =>
      w_strict walk
      exact hA rfl
    | str hx =>
      w_strict walk
      exact hA rfl
    | bytes hx =>
      w_strict walk
      exact hB rfl
  · intro v n₂ Q hvv hk hQ
    w_strict walk
    exact hQ _ rfl
  intro l' kept m2 N2 hD2 mono2 sel2 hall2
  have hall2 := hall2.eq
  subst hall2
  have hD12 := mono2 _ hD1
  have hbc2 := mono2 _ hbc1
  have sl2 := sl1.trans sel2
  refine ⟨_, by k_all, ?_⟩
  clear l'
  w_strict walk
  · rename_i hbn t1 t2 I3 o3 ho3 c3 D3 hc3 hcl3
    have lk := List.length_filter_le keepK vs
    have lt := List.length_filter_le keepT vs
    have otk : ∀ v ∈ vs.filter keepK, v = .none ∨ Okt v := fun v h => (hv v (List.mem_filter.mp h).1).okt (List.mem_filter.mp h).2
    have hbe : bv = .none := by
      cases hb with
      | none => rfl
      | str h => exact absurd (show false = true from hbn) (by decide)
    subst hbe
    have er : rowG .none = fun v => [v] := by funext v; exact if_pos rfl
    refine comp_rowsN (vs := vs.filter keepK) (f := rowG .none) ho3 hD2 (by omega) (by decide +kernel) ?_ ?_
    · intro v n₂ Q hm hQ
      rw [er] at hQ
      w_strict walk
      exact hQ _
    intro l' rows m3 N3 hD3 mono3 sel3 hR3 hlen3
    have hD13 := mono3 _ hD12
    have hbc3 := mono3 _ hbc2
    have sl3 := sl2.trans sel3
    w_strict walk
    refine gather_concat hb hD3.mem hR3 otk (by omega) (by omega) ?_ fun a v hT => ?_
    · have := stG_sum (sep := sepG .none) (by decide) (vs.filter keepK) st0 fun v h => txt_len (hv v (List.mem_filter.mp h).1)
      have e0 : (st0.ps.map (·.length)).sum = 0 := rfl
      omega
    w_strict walk
    have hput : Str.length (Str.ofString ",") ≤ 5 := by decide
    have hy5 : ∀ t ∈ (vs.filter keepT).map txtV, Str.length t ≤ 5 := fun t ht => by
      obtain ⟨u, hu, rfl⟩ := List.mem_map.mp ht
      exact txt_len (hv u (List.mem_filter.mp hu).1)
    rename_i tp aT I4 o4 ho4
    refine FoE.overList (its := some) (k := m1) (P := fun done l₁ n₁ => n₁ = (aT, tupOf [.ref a, .str (Str.ofString ",") tp]) :: (a, W.listOf #[v] 0) :: N3 ∧ ∃ dv, DueIs (dueAt (Str.ofString ",") ((vs.filter keepT).map txtV) done.length) dv ∧
      l₁ = [(Str.ofString "due", dv), (Str.ofString "told", .ref a), (Str.ofString "put", .str (Str.ofString ",") tp), (Str.ofString "kept", .ref D2), (Str.ofString "some", .ref D1), (Str.ofString "values", .ref d)]) ho4 ?_ ?_ ?_ ⟨rfl, .none, rfl, rfl⟩
    · rintro done l₁ n₁ ⟨rfl, _⟩; exact hD13.tail.tail.mem
    · rintro done y rest l₁ n₁ o e ⟨rfl, dv, hdv, rfl⟩
      obtain ⟨x, t, rfl, hx⟩ := strs_at hs1 (i := done.length) (v := y) (by rw [e]; simp)
      have est := dueAt_succ (put := (Str.ofString ",")) hx
      have hlen : ∀ s, dueAt (Str.ofString ",") ((vs.filter keepT).map txtV) done.length = Option.some s → s.length ≤ 50 := fun s => dueAt_len hput hy5 (by rw [List.length_map]; omega)
      have hx5 := hy5 x (List.mem_of_getElem? hx)
      rw [show (done ++ [Value.str x t]).length = done.length + 1 by simp, est]
      generalize dueAt (Str.ofString ",") ((vs.filter keepT).map txtV) done.length = due at hdv hlen
      cases due with
      | none =>
        have : dv = .none := hdv
        subst this
        w_strict walk
        exact Wk.of (by walk_at "k_ls") (by walk_at "k_sel") ⟨_, rfl, rfl, _, ⟨_, rfl⟩, rfl⟩
      | some s =>
        obtain ⟨ts, rfl⟩ := hdv
        have h50 := hlen s rfl
        have z1 : s.length + Str.length (Str.ofString ",") ≤ sizeLine := by rw [sizeLine_eq]; omega
        have z2 : (s ++ (Str.ofString ",")).length + x.length ≤ sizeLine := by rw [str_len, sizeLine_eq]; omega
        w_strict walk
        exact Wk.of (by walk_at "k_ls") (by walk_at "k_sel") ⟨_, rfl, rfl, _, ⟨_, rfl⟩, rfl⟩
    · rintro l₁ n₁ ⟨rfl, dv, hdv, rfl⟩
      rw [← strs_len hs1] at hdv
      have sd := joined_end hT hdv
      w_strict walk
      refine CmO.eq_one (by k_mem) (by k_mem) (SameD.eqAt sd) ?_
      w_strict walk
      exact RetK.of h (by repeat (first | exact sl3 | refine Sel.skip ?_))
  · rename_i hbn t1 t2 I3 o3 ho3 c3 D3 hc3 hcl3
    have lk := List.length_filter_le keepK vs
    have lt := List.length_filter_le keepT vs
    have otk : ∀ v ∈ vs.filter keepK, v = .none ∨ Okt v := fun v h => (hv v (List.mem_filter.mp h).1).okt (List.mem_filter.mp h).2
    obtain ⟨bs, tb, rfl, hbs⟩ : ∃ bs tb, bv = .str bs tb ∧ bs ∈ [Str.ofString ", ", Str.ofString ""] := by
      cases hb with
      | none => exact absurd (show true = false from hbn) (by decide)
      | str h => exact ⟨_, _, rfl, h⟩
    have hp5 : bs.length ≤ 5 := by
      have key : ∀ x ∈ [Str.ofString ", ", Str.ofString ""], x.length ≤ 5 := by decide +kernel
      exact key bs hbs
    have er : rowG (.str bs tb) = fun v => [v, .str bs tb] := by funext v; exact if_neg (by intro q; cases q)
    have hlk3 : c3.cells.lookup (Str.ofString "between") = Option.some bc := by rw [hcl3]; rfl
    refine comp_rowsN (vs := vs.filter keepK) (f := rowG (.str bs tb)) ho3 hD2 (by omega) (by decide +kernel) ?_ ?_
    · intro v n₂ Q hm hQ
      rw [er] at hQ
      have hb3 := hm _ hbc2
      w_strict walk
      exact hQ _
    intro l' rows m3 N3 hD3 mono3 sel3 hR3 hlen3
    have hD13 := mono3 _ hD12
    have hbc3 := mono3 _ hbc2
    have sl3 := sl2.trans sel3
    w_strict walk
    refine gather_concat hb hD3.mem hR3 otk (by omega) (by omega) ?_ fun a v hT => ?_
    · have := stG_sum (sep := sepG (.str bs tb)) hp5 (vs.filter keepK) st0 fun v h => txt_len (hv v (List.mem_filter.mp h).1)
      have e0 : (st0.ps.map (·.length)).sum = 0 := rfl
      omega
    w_strict walk
    have hput : Str.length bs ≤ 5 := hp5
    have hy5 : ∀ t ∈ (vs.filter keepT).map txtV, Str.length t ≤ 5 := fun t ht => by
      obtain ⟨u, hu, rfl⟩ := List.mem_map.mp ht
      exact txt_len (hv u (List.mem_filter.mp hu).1)
    rename_i aT I4 o4 ho4
    refine FoE.overList (its := some) (k := m1) (P := fun done l₁ n₁ => n₁ = (aT, tupOf [.ref a, .str bs tb]) :: (a, W.listOf #[v] 0) :: N3 ∧ ∃ dv, DueIs (dueAt bs ((vs.filter keepT).map txtV) done.length) dv ∧
      l₁ = [(Str.ofString "due", dv), (Str.ofString "told", .ref a), (Str.ofString "put", .str bs tb), (Str.ofString "kept", .ref D2), (Str.ofString "some", .ref D1), (Str.ofString "values", .ref d)]) ho4 ?_ ?_ ?_ ⟨rfl, .none, rfl, rfl⟩
    · rintro done l₁ n₁ ⟨rfl, _⟩; exact hD13.tail.tail.mem
    · rintro done y rest l₁ n₁ o e ⟨rfl, dv, hdv, rfl⟩
      obtain ⟨x, t, rfl, hx⟩ := strs_at hs1 (i := done.length) (v := y) (by rw [e]; simp)
      have est := dueAt_succ (put := bs) hx
      have hlen : ∀ s, dueAt bs ((vs.filter keepT).map txtV) done.length = Option.some s → s.length ≤ 50 := fun s => dueAt_len hput hy5 (by rw [List.length_map]; omega)
      have hx5 := hy5 x (List.mem_of_getElem? hx)
      rw [show (done ++ [Value.str x t]).length = done.length + 1 by simp, est]
      generalize dueAt bs ((vs.filter keepT).map txtV) done.length = due at hdv hlen
      cases due with
      | none =>
        have : dv = .none := hdv
        subst this
        w_strict walk
        exact Wk.of (by walk_at "k_ls") (by walk_at "k_sel") ⟨_, rfl, rfl, _, ⟨_, rfl⟩, rfl⟩
      | some s =>
        obtain ⟨ts, rfl⟩ := hdv
        have h50 := hlen s rfl
        have z1 : s.length + Str.length bs ≤ sizeLine := by rw [sizeLine_eq]; omega
        have z2 : (s ++ bs).length + x.length ≤ sizeLine := by rw [str_len, sizeLine_eq]; omega
        w_strict walk
        exact Wk.of (by walk_at "k_ls") (by walk_at "k_sel") ⟨_, rfl, rfl, _, ⟨_, rfl⟩, rfl⟩
    · rintro l₁ n₁ ⟨rfl, dv, hdv, rfl⟩
      rw [← strs_len hs1] at hdv
      have sd := joined_end hT hdv
      w_strict walk
      refine CmO.eq_one (by k_mem) (by k_mem) (SameD.eqAt sd) ?_
      w_strict walk
      exact RetK.of h (by repeat (first | exact sl3 | refine Sel.skip ?_))
end
-- part NtU
theorem range_facts : ∀ m : Fin 7, Builtin.Range.small 0 m.1 1 = true ∧ Builtin.Range.rangeSize 0 m.1 1 = m.1 := by decide +kernel
section
variable {pr : Program} {w : World} {K : Frag} {sc : Scope} {c : Cx pr w K sc} {l : Loc} {n : Led} {X : Exc}
theorem ItR.range0 {Q : Value → Loc → Led → Prop} {d : Addr} {b : Int} {t u v : Tok} (hm : Mm (d, rangeObj 0 b t u v) n) (h0 : 0 ≤ b) (h1 : b < 7) (h : ∀ i o, RIt o 0 b → Q (.ref i) l ((i, o) :: n)) : ItR (.ref d) c l n Q X := by
  have f := range_facts ⟨b.toNat, by omega⟩
  have e : ((b.toNat : Nat) : Int) = b := Int.toNat_of_nonneg h0
  dsimp only at f
  rw [e] at f
  refine ItR.range hm f.1 fun i o ho => h i o ?_
  rw [f.2] at ho
  exact ho
/-- a `for` over a range, by what holds between the turns -/
theorem FoL.overRange {target : Expr} {body orelse : List Stmt} {I : Addr} {Q : Flow → Loc → Led → Prop} (P : Int → Loc → Led → Prop) (e : Int)
    (turn : ∀ i l n o u, i < e → P i l n → AsT target (.int i u) c l ((I, o) :: n) (fun _ l n => ExL body c l n (loopK (Wk fun l n => ∃ n', n = (I, o) :: n' ∧ P (i + 1) l n') Q) NoX) NoX)
    (fin : ∀ l n, P e l n → ExL orelse c l n Q NoX) :
    ∀ (k : Nat) (i : Int) (l : Loc) (n : Led) (o : Obj), i + k = e → RIt o i k → P i l n → FoL target (.ref I) body orelse c Q (k + 1) l ((I, o) :: n) := by
  intro k
  induction k with
  | zero =>
    intro i l n o he ho h
    refine FoL.turn (NxT.range_end .head .head ho (by decide) (nextK_none (fin l n (by rw [← he]; simpa using h))))
  | succ k ih =>
    intro i l n o he ho h
    refine FoL.turn (NxT.range_item .head ho (by omega) fun o' u ho' => nextK_some ?_)
    refine W.mono (turn i l n o' u (by omega) h) (fun _ l₁ n₁ h₁ => W.mono h₁ (fun f l₂ n₂ h₂ => ?_) fun _ _ _ f => f) fun _ _ _ f => f
    have go : ∀ l₂ n₂, Wk (fun l n => ∃ n', n = (I, o') :: n' ∧ P (i + 1) l n') l₂ n₂ → FoL target (.ref I) body orelse c Q (k + 1) l₂ n₂ := by
      rintro l₂ n₂ ⟨l', n', hl, hn, n'', rfl, hP⟩
      exact W.weak (ih (i + 1) l' n'' o' (by push_cast at he; omega) (by rw [show ((k : Nat) : Int) = (((k + 1 : Nat) : Int)) - 1 by push_cast; omega]; exact ho') hP) hl hn
    cases f with
    | next => exact go _ _ h₂
    | cont => exact go _ _ h₂
    | brk => exact h₂
    | ret v => exact h₂
theorem FoE.overRange {target : Expr} {body orelse : List Stmt} {I : Addr} {o : Obj} {Q : Flow → Loc → Led → Prop} {e : Int} (P : Int → Loc → Led → Prop) (ho : RIt o 0 e) (h0 : 0 ≤ e)
    (turn : ∀ i l n o u, i < e → P i l n → AsT target (.int i u) c l ((I, o) :: n) (fun _ l n => ExL body c l n (loopK (Wk fun l n => ∃ n', n = (I, o) :: n' ∧ P (i + 1) l n') Q) NoX) NoX)
    (fin : ∀ l n, P e l n → ExL orelse c l n Q NoX) (hP : P 0 l n) : FoE target (.ref I) body orelse c l ((I, o) :: n) Q :=
  ⟨_, FoL.overRange P e turn fin e.toNat 0 l n o (by omega) (by rw [Int.toNat_of_nonneg h0]; exact ho) hP⟩
/-- a comprehension over a range, by what holds between the turns -/
theorem CoL.overRange {elt : Expr} {x : Str} {px : Pos} {I : Addr} {Fin : Loc → Led → Prop} {D : Addr} (P : List Value → Led → Prop)
    (turn : ∀ outs n o m i u, outs.length ≤ 1000 → P outs n → StN x (.int i u) c [] ((D, listOf outs.toArray m) :: (I, o) :: n) (fun _ l n₁ => EvE elt c l n₁ (fun y _ n₃ => ∃ n', Sel ((D, listOf outs.toArray m) :: (I, o) :: n') n₃ ∧ P (outs ++ [y]) n') NoX) NoX)
    (N : Nat) (hN : N ≤ 1000) (fin : ∀ l outs m n, outs.length = N → P outs n → Fin l ((D, listOf outs.toArray m) :: n)) :
    ∀ (k : Nat) (i : Int) (outs : List Value) (l : Loc) (n : Led) (o : Obj) (m : Nat), outs.length + k = N → RIt o i k → P outs n → CoL elt x px [] (.ref I) D c Fin (k + 1) l ((D, listOf outs.toArray m) :: (I, o) :: n) := by
  intro k
  induction k with
  | zero =>
    intro i outs l n o m hlen ho h
    exact CoL.turn (NxT.range_end (.tail .head) (.tail .head) ho (by decide) (nextK_none (fin _ _ _ _ (by omega) h)))
  | succ k ih =>
    intro i outs l n o m hlen ho h
    have hlt : outs.length ≤ sizeLine := by rw [sizeLine_eq]; omega
    refine W.weak (l' := []) ?_ (fun _ hp => by cases hp) Sel.refl
    refine CoL.turn (NxT.range_item (.tail .head) ho (by omega) fun o' u ho' => nextK_some (AsT.name ?_))
    refine W.mono (turn outs n o' m i u (by omega) h) (fun _ l₁ n₁ h₁ => TsL.nil (W.mono h₁ (fun y l₃ n₃ h₃ => ?_) fun _ _ _ f => f)) fun _ _ _ f => f
    obtain ⟨n', hn, hP⟩ := h₃
    refine W.weak (CaV.append .head hlt ?_) (fun _ hp => hp) hn
    exact ih (i + 1) (outs ++ [y]) l₃ n' o' (m + 1) (by simp; omega) (by rw [show ((k : Nat) : Int) = (((k + 1 : Nat) : Int)) - 1 by push_cast; omega]; exact ho') hP
theorem CoE.overRange {elt : Expr} {x : Str} {px : Pos} {I : Addr} {Fin : Loc → Led → Prop} {D : Addr} {o : Obj} {e : Int} (P : List Value → Led → Prop) (ho : RIt o 0 e) (h0 : 0 ≤ e) (h1 : e < 7)
    (turn : ∀ outs n o m i u, outs.length ≤ 1000 → P outs n → StN x (.int i u) c [] ((D, listOf outs.toArray m) :: (I, o) :: n) (fun _ l n₁ => EvE elt c l n₁ (fun y _ n₃ => ∃ n', Sel ((D, listOf outs.toArray m) :: (I, o) :: n') n₃ ∧ P (outs ++ [y]) n') NoX) NoX)
    (fin : ∀ l outs m n, (outs.length : Int) = e → P outs n → Fin l ((D, listOf outs.toArray m) :: n)) (hP : P [] n) : CoE elt x px [] (.ref I) D c l ((D, listOf #[] 0) :: (I, o) :: n) Fin :=
  ⟨_, CoL.overRange P turn e.toNat (by omega) (fun l outs m n hl h => fin l outs m n (by omega) h) e.toNat 0 [] l n o 0 (by simp) (by rw [Int.toNat_of_nonneg h0]; exact ho) hP⟩
end
-- part NtW
theorem W.enter {pr : Program} {w : World} {K : Frag} {name : Str} {scope : Scope} {body : List Stmt} {s s₁ : Shared} {fa sp : Addr} {its : Array Value} {x : Str} {cd : Value} {y : Str} {o : Obj} {m : Str → Option Value} {p : Program} {loose : List Str} {mean : ExcName → Option Value} {mg mb : Str → Option Value}
    {P : Flow → Shared → Prop} {E : Value → Shared → Prop} {v₀ : Option Value}
    (hk : scope.kind = .function) (hcs : ∀ k, cellsFrom k scope.names [] = [(y, k)]) (KX : K.In s₁.heap) (T : Top p loose mean mg mb s₁.heap)
    (F : Fr s₁.heap s₁.heap.objs.size s.heap m) (N : News s₁.heap s₁.heap.objs.size s.heap [(s₁.heap.objs.size + 1, o)]) (hg : s.gens = s₁.gens) (hd : s.drawn = s₁.drawn) (hos : s.os = s₁.os) (hb : s₁.heap.IsList sp its) (hl : m x = some (.ref sp)) (ho : o.data = .cell v₀)
    (hP : ∀ (v : Value) (s' : Shared), v = .bool true → (∀ b o, s₁.heap.get? b = some o → s'.heap.get? b = some o) → s'.os = s₁.os → s'.gens = s₁.gens → P (.ret v) s')
    (h : ∀ (c : Cx pr w K scope) (b : Addr) (o : Obj), c.room = 100 → c.cells = [(y, b)] → c.h₀ = s₁.heap → c.h₀.IsList sp its → o.data = .cell v₀ → ExL body c [(x, .ref sp)] [(b, o)] (fun fl _ _ => fl = .ret (.bool true)) (fun _ _ _ => False)) :
    wpAny (model pr w) (callerA.deeper (envOfC name scope s₁.heap.objs.size fa cd)) (execs body (envOfC name scope s₁.heap.objs.size fa cd)) P E s := by
  let c : Cx pr w K scope :=
    { A := callerA.deeper (envOfC name scope s₁.heap.objs.size fa cd), frs := [envOfC name scope s₁.heap.objs.size fa cd], outs := [], h₀ := s₁.heap, L := s₁.heap.objs.size, cells := [(y, s₁.heap.objs.size + 1)], qual := name ++ ".<locals>.", func := some fa, code := cd, frame := some s₁.heap.objs.size,
      p := p, loose := loose, mean := mean, mg := mg, mb := mb, room := 100, hk := hk, hA := Around.frames_deeper rfl,
      hfr := fun e he => by
        rw [List.mem_singleton] at he
        subst he
        exact ⟨by show scope.kind ≠ .module; rw [hk]; decide, _, rfl, .inl rfl⟩
      hh := rfl, hd := (by show 1 + claimMargin + 1 + 100 ≤ 900; decide), hu := (by show 4 + 3 + 30 * 100 ≤ 9000; decide), X := KX, T := T }
  have ee : c.env = envOfC name scope s₁.heap.objs.size fa cd := by
    show ({ (envOfC name scope s₁.heap.objs.size fa cd) with cells := [(y, s₁.heap.objs.size + 1)] } : Env) = _
    rw [← hcs]
    rfl
  have z : At c s₁ s ⟨m, []⟩ [(x, .ref sp)] [(s₁.heap.objs.size + 1, o)] := ⟨⟨hg, hd, hos⟩, F, (fun y v hm => by cases hm with | head => exact hl | tail h => cases h), ⟨N, by simp, .nil⟩⟩
  have hh := h c (s₁.heap.objs.size + 1) o rfl rfl rfl hb ho s₁ s _ z
  rw [ee] at hh
  refine wpAny_mono hh (fun fl s' ⟨m', l', n', y', q⟩ => ?_) fun _ _ f => f.elim
  subst q
  exact hP _ _ rfl y'.F.keep y'.R.os y'.R.gens
-- part Lw
local macro_rules | `(tactic| walk_at "EvE Name") => `(tactic| (refine' EvE.cell ?hk ?hc ?hm ?ho ?_ ?hd; (case hk => decide +kernel); (case hc => assumption); (case hm => k_mem); (case ho => assumption); (case hd => decide +kernel)))
local macro_rules | `(tactic| walk_at "StN") => `(tactic| (refine' StN.cell ?hk ?hc ?hp ?ho ?_; (case hk => decide +kernel); (case hc => assumption); (case hp => k_upd); (case ho => assumption); intro _ _))
theorem last : PySem.Challenge.rw_nt0101_01.Holds := head (by
  delta lawRec
  intro w s₀ s₁ mg mb G Y fa o pm cd doc dV kV ho hd hcd hD hmg hg args vals as hpre hlay hrd hwl hlo
  have KX := kIn_of Y
  refine Ground.open G ?_
  intro T B D TE TW
  clear D TE TW B hmg
  w_strict (wrow_args hpre hlay hrd hwl hlo)
  first | refine enter_call ?_ | refine enter_callW ?_
  w_top on
  refine codeAny_mono ?_ (fun _ _ g => GoodW.toG g)
  w_call any ho hd hcd hD T F
  rename Fr _ _ _ _ => F0
  rename Top _ _ _ _ _ _ => T0
  rename Frag.In _ _ => KX
  rename IntsAre _ _ => hI
  rename Heap.IsList _ _ _ => hLs
  rename (¬ _) => hlen
  rename Shared.gens _ = #[] => hg0
  rename _ = Data.cell _ => hcell
  rename News _ _ _ [_] => N0
  have hlen' := hlen
  refine W.enter (K := Mine.heap _) (v₀ := none) (y := Str.ofString "source") (x := Str.ofString "script") ?hk ?hcs KX T0 F0 N0 rfl rfl rfl hLs ?hl ?ho ?hP ?h
  case hk => rfl
  case hcs => intro k; rfl
  case hl => rfl
  case ho => rw [hcell]; rfl
  case hP =>
    intro v s' e hkeep hos hgens
    subst e
    refine ⟨.inl ⟨_, .bool true, [], rfl, ?_, ?_, ?_, ?_⟩, hkeep, hos, hgens.trans hg0⟩
    · intro cls; rfl
    · constructor
    · exact postW_of (by wrow_shape) (by wtm_val) (by str_meet; first | done | w_fin)
    · intro _; exact ⟨List.nodup_nil, fun a h => nomatch h⟩
  intro c b o hr hcells hz' hb hod
  have hlk : c.cells.lookup (Str.ofString "source") = some b := by rw [hcells]; rfl
  have hli := hI.length
  w_strict walk
  refine CaV.len_base hb (by rw [sizeLine_eq, List.size_toArray]; omega) fun t => ?_
  w_strict walk
  rename_i R0 _ _
  generalize hM : (if (if (3 : Int) < ((List.toArray _).size : Nat) then (3 : Int) else ((List.toArray _).size : Nat)) > 1 then (if (3 : Int) < ((List.toArray _).size : Nat) then (3 : Int) else ((List.toArray _).size : Nat)) else 1) = M
  have hM0 : 0 ≤ M ∧ M ≤ 3 := by
    subst hM
    generalize ((List.toArray _).size : Int) = z
    constructor <;> (split <;> split <;> omega)
  clear hM
  generalize hro : rangeObj 0 M _ _ _ = ro
  refine ItR.range0 (b := M) (by rw [← hro]; exact Mm.head) hM0.1 (by omega) fun I0 oI hI0 => ?_
  refine FoE.overRange (fun i l n => 0 ≤ i ∧ l = [(Str.ofString "script", .ref _)] ∧ ∃ o v, n = [(R0, ro), (b, o)] ∧ o.data = .cell v) hI0 hM0.1 ?_ ?_ ⟨by decide, rfl, _, _, rfl, hod⟩
  · rintro i l n oI' u hi ⟨hi0, rfl, o, v, rfl, hod⟩
    w_strict walk
    refine pool_ok hb hI (by omega) (by omega) (by omega) fun src x tx y ty hx hy hy' => ?_
    w_strict walk
    rename_i ob hob
    with_reducible refine' ExS.asgComp ?hF ?hcl ?hy ?_ ?hs ?hsw
    case hs => (intro _; with_unfolding_all rfl)
    case hsw => with_unfolding_all rfl
    case hF => exact CoF.of (by decide +kernel)
    case hcl => exact (closure_of hcells).trans (by with_unfolding_all rfl)
    case hy => decide +kernel
    w_strict walk
    have hs0 : Src src (fun o' => [(src, o'), (I0, oI'), (R0, ro), (b, ob)]) [(src, W.listOf #[Value.int x tx, Value.int y ty] 0), (I0, oI'), (R0, ro), (b, ob)] := ⟨x, tx, y, ty, 0, .head, hx, hy, hy'⟩
    refine take_ok hs0 (by omega) (by omega) (by omega) fun d td n1 hs1 d0 d1 => ?_
    obtain ⟨os1, rfl, hs1⟩ := hs0.re hs1
    dsimp only at hs1 ⊢
    w_strict walk
    rename_i Rd ud vd
    refine ItR.range0 (b := d) Mm.head d0 (by omega) fun Ic oc hIc => ?_
    generalize rangeObj 0 d ud td vd = rd
    refine CoK.mk (ItSelf.range .head hIc) fun c2 D hr2 hcl2 => ?_
    have hlk2 : c2.cells.lookup (Str.ofString "source") = some b := by rw [hcl2]; rfl
    refine CoE.overRange (fun outs n' => (∀ v ∈ outs, Dr v) ∧ ∃ os, n' = [(Rd, rd), (src, os), (I0, oI'), (R0, ro), (b, ob)] ∧ Src src (fun o' => [(Rd, rd), (src, o'), (I0, oI'), (R0, ro), (b, ob)]) [(Rd, rd), (src, os), (I0, oI'), (R0, ro), (b, ob)]) hIc d0 (by omega) ?_ ?_ ⟨(fun v hv => nomatch hv), _, rfl, hs1.cons⟩
    · rintro outs n' o m i' u' hlen ⟨hdr, os, rfl, hs⟩
      w_strict walk
      refine value_ok hs.cons.cons (by omega) fun v n2 dv hs2 => ?_
      obtain ⟨os2, rfl, hs3⟩ := hs.re hs2
      refine ⟨_, Sel.refl, fun u hu => ?_, _, rfl, hs3⟩
      rcases List.mem_append.mp hu with q | q
      · exact hdr u q
      · rw [List.mem_singleton.mp q]; exact dv
    · rintro l' outs m n' hlen ⟨hdr, os, rfl, hs⟩
      refine ⟨_, by k_all, ?_⟩
      have zl : outs.length ≤ sizeLine := by rw [sizeLine_eq]; omega
      w_strict walk
      rename_i k1 Rv Pl If of hIf
      refine FoE.overList (its := [.ref D, .ref Rv]) (k := 0) (P := fun _ l₁ n₁ => l₁ = [(Str.ofString "values", .ref D), (Str.ofString "k", .int i u), (Str.ofString "script", .ref _)] ∧
        ∃ os, n₁ = [(Pl, W.listOf [.ref D, .ref Rv].toArray 0), (Rv, W.listOf outs.reverse.toArray 0), (D, W.listOf outs.toArray m), (Rd, rd), (src, os), (I0, oI'), (R0, ro), (b, ob)] ∧
          Src src (fun o' => [(Pl, W.listOf [.ref D, .ref Rv].toArray 0), (Rv, W.listOf outs.reverse.toArray 0), (D, W.listOf outs.toArray m), (Rd, rd), (src, o'), (I0, oI'), (R0, ro), (b, ob)])
            [(Pl, W.listOf [.ref D, .ref Rv].toArray 0), (Rv, W.listOf outs.reverse.toArray 0), (D, W.listOf outs.toArray m), (Rd, rd), (src, os), (I0, oI'), (R0, ro), (b, ob)]) hIf ?_ ?_ ?_ ⟨rfl, _, rfl, hs.cons.cons.cons⟩
      · rintro done l₁ n₁ ⟨rfl, os, rfl, _⟩; exact .head _
      · rintro done v rest l₁ n₁ o3 e ⟨rfl, os, rfl, hs⟩
        obtain ⟨p, ws, kp, rfl, hpm, hws, hwl⟩ : ∃ (p : Addr) (ws : List Value) (kp : Nat), v = .ref p ∧ (∀ os, Mm (p, W.listOf ws.toArray kp) [(Pl, W.listOf [.ref D, .ref Rv].toArray 0), (Rv, W.listOf outs.reverse.toArray 0), (D, W.listOf outs.toArray m), (Rd, rd), (src, os), (I0, oI'), (R0, ro), (b, ob)]) ∧ (∀ v ∈ ws, Dr v) ∧ ws.length ≤ 5 := by
          have hv : v ∈ [Value.ref D, .ref Rv] := by rw [e]; simp
          simp only [List.mem_cons, List.not_mem_nil, or_false] at hv
          rcases hv with rfl | rfl
          · exact ⟨D, outs, m, rfl, fun os => .tail (.tail .head), hdr, by omega⟩
          · exact ⟨Rv, outs.reverse, 0, rfl, fun os => .tail .head, fun v h => hdr v (List.mem_reverse.mp h), by rw [List.length_reverse]; omega⟩
        have hp0 := hpm os
        w_strict walk
        refine counts_ok (.tail (hpm os)) hws hwl (by omega) ?_
        w_strict walk
        refine W.nodup fun hu => ?_
        refine one_ok hs.cons.cons .head (Src.ne hs.cons hu) (by show 0 < 3; decide) (by show 3 < 50; decide) (by omega) fun v n2 hv hs2 => ?_
        obtain ⟨os2, rfl, hs3⟩ := hs.re hs2
        clear hs hs2 hu
        obtain ⟨kc, tc, rfl, hkc⟩ : ∃ kc tc, v = .str kc tc ∧ kc ∈ colls := by
          simp only [List.mem_cons, List.not_mem_nil, or_false] at hv
          rcases hv with rfl | rfl | rfl <;> exact ⟨_, _, rfl, by decide +kernel⟩
        w_strict walk
        refine bests_ok hkc (.tail (.tail (hpm os2))) hws hwl (by omega) ?_
        w_strict walk
        refine W.nodup fun hu => ?_
        refine one_ok hs3.cons.cons.cons .head (Src.ne hs3.cons.cons hu) (by show 0 < 3; decide) (by show 3 < 50; decide) (by omega) fun v n2 hv hs4 => ?_
        obtain ⟨os4, rfl, hs5⟩ := hs3.re hs4
        clear hs3 hs4 hu
        have hsep : SepOk v := by
          simp only [List.mem_cons, List.not_mem_nil, or_false] at hv
          rcases hv with rfl | rfl | rfl
          · exact .none
          · exact .str (by decide +kernel)
          · exact .str (by decide +kernel)
        w_strict walk
        refine joined_ok hsep (.tail (.tail (.tail (hpm os4)))) hws hwl (by omega) ?_
        w_strict walk
        exact Wk.of (by walk_at "k_ls") (by walk_at "k_sel") ⟨_, rfl, rfl, os4, rfl, hs5⟩
      · rintro l₁ n₁ ⟨rfl, os, rfl, hs⟩
        w_strict walk
        refine great_ok hs (by omega) fun n2 hs2 => ?_
        obtain ⟨os2, rfl, hs3⟩ := hs.re hs2
        w_strict walk
        exact Wk.of (by walk_at "k_ls") (by walk_at "k_sel") ⟨_, rfl, by omega, rfl, ob, _, rfl, hob⟩
  · rintro l n ⟨_, rfl, o, v, rfl, hod⟩
    w_strict walk)
end Mine
set_option maxRecDepth 100000 in
theorem PySem.Challenge.cw_nt0101_01_holds : PySem.Challenge.rw_nt0101_01.Holds := by
  exact Mine.last
