import PyProof.Rows.All
import Wide.All
import OpenK.AllK
import Wide.FinOn
import PySem.Challenge.RW_pb0246_01
open PySem PySem.W PyProof.Rows
set_option Elab.async false
namespace Mine
section Head
set_option maxRecDepth 1000000
set_option maxHeartbeats 0
namespace hd
noncomputable def st (i : Nat) : Stmt := PySem.Challenge.pw_pb0246_01.main.body.getD i (.Pass ⟨0, 0, 0, 0⟩)
noncomputable def sb (i j : Nat) : Stmt := match st i with
  | .ClassDef _ _ _ b _ _ _ _ _ _ _ => b.getD j (.Pass ⟨0, 0, 0, 0⟩)
  | s => s
noncomputable def fP (s : Stmt) : Arguments := match s with
  | .FunctionDef _ x _ _ _ _ _ _ _ _ => x
  | _ => default
noncomputable def fB (s : Stmt) : List Stmt := match s with
  | .FunctionDef _ _ x _ _ _ _ _ _ _ => x
  | _ => []
noncomputable def fS (s : Stmt) : Scope := match s with
  | .FunctionDef _ _ _ _ _ _ x _ _ _ => x
  | _ => default
noncomputable def aP0 : Arguments := by
  refine' (?f : ∀ x, fP (st 3) = x → Arguments) _ ?h
  case h => (conv => lhs; whnf)
  case f => exact fun x _ => x
noncomputable def aB0 : List Stmt := by
  refine' (?f : ∀ x, fB (st 3) = x → List Stmt) _ ?h
  case h => (conv => lhs; whnf)
  case f => exact fun x _ => x
noncomputable def aS0 : Scope := by
  refine' (?f : ∀ x, fS (st 3) = x → Scope) _ ?h
  case h => (conv => lhs; whnf)
  case f => exact fun x _ => x
noncomputable def aP1 : Arguments := by
  refine' (?f : ∀ x, fP (sb 2 1) = x → Arguments) _ ?h
  case h => (conv => lhs; whnf)
  case f => exact fun x _ => x
noncomputable def aB1 : List Stmt := by
  refine' (?f : ∀ x, fB (sb 2 1) = x → List Stmt) _ ?h
  case h => (conv => lhs; whnf)
  case f => exact fun x _ => x
noncomputable def aS1 : Scope := by
  refine' (?f : ∀ x, fS (sb 2 1) = x → Scope) _ ?h
  case h => (conv => lhs; whnf)
  case f => exact fun x _ => x
noncomputable def aP2 : Arguments := by
  refine' (?f : ∀ x, fP (sb 8 0) = x → Arguments) _ ?h
  case h => (conv => lhs; whnf)
  case f => exact fun x _ => x
noncomputable def aB2 : List Stmt := by
  refine' (?f : ∀ x, fB (sb 8 0) = x → List Stmt) _ ?h
  case h => (conv => lhs; whnf)
  case f => exact fun x _ => x
noncomputable def aS2 : Scope := by
  refine' (?f : ∀ x, fS (sb 8 0) = x → Scope) _ ?h
  case h => (conv => lhs; whnf)
  case f => exact fun x _ => x
noncomputable def aP3 : Arguments := by
  refine' (?f : ∀ x, fP (st 6) = x → Arguments) _ ?h
  case h => (conv => lhs; whnf)
  case f => exact fun x _ => x
noncomputable def aB3 : List Stmt := by
  refine' (?f : ∀ x, fB (st 6) = x → List Stmt) _ ?h
  case h => (conv => lhs; whnf)
  case f => exact fun x _ => x
noncomputable def aS3 : Scope := by
  refine' (?f : ∀ x, fS (st 6) = x → Scope) _ ?h
  case h => (conv => lhs; whnf)
  case f => exact fun x _ => x
noncomputable def aP8 : Arguments := by
  refine' (?f : ∀ x, fP (sb 8 1) = x → Arguments) _ ?h
  case h => (conv => lhs; whnf)
  case f => exact fun x _ => x
noncomputable def aB8 : List Stmt := by
  refine' (?f : ∀ x, fB (sb 8 1) = x → List Stmt) _ ?h
  case h => (conv => lhs; whnf)
  case f => exact fun x _ => x
noncomputable def aS8 : Scope := by
  refine' (?f : ∀ x, fS (sb 8 1) = x → Scope) _ ?h
  case h => (conv => lhs; whnf)
  case f => exact fun x _ => x
noncomputable def aP9 : Arguments := by
  refine' (?f : ∀ x, fP (st 4) = x → Arguments) _ ?h
  case h => (conv => lhs; whnf)
  case f => exact fun x _ => x
noncomputable def aB9 : List Stmt := by
  refine' (?f : ∀ x, fB (st 4) = x → List Stmt) _ ?h
  case h => (conv => lhs; whnf)
  case f => exact fun x _ => x
noncomputable def aS9 : Scope := by
  refine' (?f : ∀ x, fS (st 4) = x → Scope) _ ?h
  case h => (conv => lhs; whnf)
  case f => exact fun x _ => x
noncomputable def aP10 : Arguments := by
  refine' (?f : ∀ x, fP (sb 2 0) = x → Arguments) _ ?h
  case h => (conv => lhs; whnf)
  case f => exact fun x _ => x
noncomputable def aB10 : List Stmt := by
  refine' (?f : ∀ x, fB (sb 2 0) = x → List Stmt) _ ?h
  case h => (conv => lhs; whnf)
  case f => exact fun x _ => x
noncomputable def aS10 : Scope := by
  refine' (?f : ∀ x, fS (sb 2 0) = x → Scope) _ ?h
  case h => (conv => lhs; whnf)
  case f => exact fun x _ => x
noncomputable def aP14 : Arguments := by
  refine' (?f : ∀ x, fP (st 21) = x → Arguments) _ ?h
  case h => (conv => lhs; whnf)
  case f => exact fun x _ => x
noncomputable def aB14 : List Stmt := by
  refine' (?f : ∀ x, fB (st 21) = x → List Stmt) _ ?h
  case h => (conv => lhs; whnf)
  case f => exact fun x _ => x
noncomputable def aS14 : Scope := by
  refine' (?f : ∀ x, fS (st 21) = x → Scope) _ ?h
  case h => (conv => lhs; whnf)
  case f => exact fun x _ => x
noncomputable def aP15 : Arguments := by
  refine' (?f : ∀ x, fP (st 19) = x → Arguments) _ ?h
  case h => (conv => lhs; whnf)
  case f => exact fun x _ => x
noncomputable def aB15 : List Stmt := by
  refine' (?f : ∀ x, fB (st 19) = x → List Stmt) _ ?h
  case h => (conv => lhs; whnf)
  case f => exact fun x _ => x
noncomputable def aS15 : Scope := by
  refine' (?f : ∀ x, fS (st 19) = x → Scope) _ ?h
  case h => (conv => lhs; whnf)
  case f => exact fun x _ => x
noncomputable def aP16 : Arguments := by
  refine' (?f : ∀ x, fP (st 28) = x → Arguments) _ ?h
  case h => (conv => lhs; whnf)
  case f => exact fun x _ => x
noncomputable def aB16 : List Stmt := by
  refine' (?f : ∀ x, fB (st 28) = x → List Stmt) _ ?h
  case h => (conv => lhs; whnf)
  case f => exact fun x _ => x
noncomputable def aS16 : Scope := by
  refine' (?f : ∀ x, fS (st 28) = x → Scope) _ ?h
  case h => (conv => lhs; whnf)
  case f => exact fun x _ => x
noncomputable def aP17 : Arguments := by
  refine' (?f : ∀ x, fP (st 16) = x → Arguments) _ ?h
  case h => (conv => lhs; whnf)
  case f => exact fun x _ => x
noncomputable def aB17 : List Stmt := by
  refine' (?f : ∀ x, fB (st 16) = x → List Stmt) _ ?h
  case h => (conv => lhs; whnf)
  case f => exact fun x _ => x
noncomputable def aS17 : Scope := by
  refine' (?f : ∀ x, fS (st 16) = x → Scope) _ ?h
  case h => (conv => lhs; whnf)
  case f => exact fun x _ => x
noncomputable def aP18 : Arguments := by
  refine' (?f : ∀ x, fP (st 23) = x → Arguments) _ ?h
  case h => (conv => lhs; whnf)
  case f => exact fun x _ => x
noncomputable def aB18 : List Stmt := by
  refine' (?f : ∀ x, fB (st 23) = x → List Stmt) _ ?h
  case h => (conv => lhs; whnf)
  case f => exact fun x _ => x
noncomputable def aS18 : Scope := by
  refine' (?f : ∀ x, fS (st 23) = x → Scope) _ ?h
  case h => (conv => lhs; whnf)
  case f => exact fun x _ => x
noncomputable def aP19 : Arguments := by
  refine' (?f : ∀ x, fP (st 17) = x → Arguments) _ ?h
  case h => (conv => lhs; whnf)
  case f => exact fun x _ => x
noncomputable def aB19 : List Stmt := by
  refine' (?f : ∀ x, fB (st 17) = x → List Stmt) _ ?h
  case h => (conv => lhs; whnf)
  case f => exact fun x _ => x
noncomputable def aS19 : Scope := by
  refine' (?f : ∀ x, fS (st 17) = x → Scope) _ ?h
  case h => (conv => lhs; whnf)
  case f => exact fun x _ => x
noncomputable def aP20 : Arguments := by
  refine' (?f : ∀ x, fP (st 26) = x → Arguments) _ ?h
  case h => (conv => lhs; whnf)
  case f => exact fun x _ => x
noncomputable def aB20 : List Stmt := by
  refine' (?f : ∀ x, fB (st 26) = x → List Stmt) _ ?h
  case h => (conv => lhs; whnf)
  case f => exact fun x _ => x
noncomputable def aS20 : Scope := by
  refine' (?f : ∀ x, fS (st 26) = x → Scope) _ ?h
  case h => (conv => lhs; whnf)
  case f => exact fun x _ => x
noncomputable def aP21 : Arguments := by
  refine' (?f : ∀ x, fP (st 24) = x → Arguments) _ ?h
  case h => (conv => lhs; whnf)
  case f => exact fun x _ => x
noncomputable def aB21 : List Stmt := by
  refine' (?f : ∀ x, fB (st 24) = x → List Stmt) _ ?h
  case h => (conv => lhs; whnf)
  case f => exact fun x _ => x
noncomputable def aS21 : Scope := by
  refine' (?f : ∀ x, fS (st 24) = x → Scope) _ ?h
  case h => (conv => lhs; whnf)
  case f => exact fun x _ => x
noncomputable def aP30 : Arguments := by
  refine' (?f : ∀ x, fP (st 20) = x → Arguments) _ ?h
  case h => (conv => lhs; whnf)
  case f => exact fun x _ => x
noncomputable def aB30 : List Stmt := by
  refine' (?f : ∀ x, fB (st 20) = x → List Stmt) _ ?h
  case h => (conv => lhs; whnf)
  case f => exact fun x _ => x
noncomputable def aP31 : Arguments := by
  refine' (?f : ∀ x, fP (st 29) = x → Arguments) _ ?h
  case h => (conv => lhs; whnf)
  case f => exact fun x _ => x
noncomputable def aB31 : List Stmt := by
  refine' (?f : ∀ x, fB (st 29) = x → List Stmt) _ ?h
  case h => (conv => lhs; whnf)
  case f => exact fun x _ => x
noncomputable def aS31 : Scope := by
  refine' (?f : ∀ x, fS (st 29) = x → Scope) _ ?h
  case h => (conv => lhs; whnf)
  case f => exact fun x _ => x
noncomputable def aP32 : Arguments := by
  refine' (?f : ∀ x, fP (st 18) = x → Arguments) _ ?h
  case h => (conv => lhs; whnf)
  case f => exact fun x _ => x
noncomputable def aB32 : List Stmt := by
  refine' (?f : ∀ x, fB (st 18) = x → List Stmt) _ ?h
  case h => (conv => lhs; whnf)
  case f => exact fun x _ => x
noncomputable def aS32 : Scope := by
  refine' (?f : ∀ x, fS (st 18) = x → Scope) _ ?h
  case h => (conv => lhs; whnf)
  case f => exact fun x _ => x
noncomputable def aP33 : Arguments := by
  refine' (?f : ∀ x, fP (st 27) = x → Arguments) _ ?h
  case h => (conv => lhs; whnf)
  case f => exact fun x _ => x
noncomputable def aB33 : List Stmt := by
  refine' (?f : ∀ x, fB (st 27) = x → List Stmt) _ ?h
  case h => (conv => lhs; whnf)
  case f => exact fun x _ => x
noncomputable def aP34 : Arguments := by
  refine' (?f : ∀ x, fP (st 25) = x → Arguments) _ ?h
  case h => (conv => lhs; whnf)
  case f => exact fun x _ => x
noncomputable def aB34 : List Stmt := by
  refine' (?f : ∀ x, fB (st 25) = x → List Stmt) _ ?h
  case h => (conv => lhs; whnf)
  case f => exact fun x _ => x
noncomputable def aS34 : Scope := by
  refine' (?f : ∀ x, fS (st 25) = x → Scope) _ ?h
  case h => (conv => lhs; whnf)
  case f => exact fun x _ => x
noncomputable def aP35 : Arguments := by
  refine' (?f : ∀ x, fP (st 22) = x → Arguments) _ ?h
  case h => (conv => lhs; whnf)
  case f => exact fun x _ => x
noncomputable def aB35 : List Stmt := by
  refine' (?f : ∀ x, fB (st 22) = x → List Stmt) _ ?h
  case h => (conv => lhs; whnf)
  case f => exact fun x _ => x
noncomputable def aS35 : Scope := by
  refine' (?f : ∀ x, fS (st 22) = x → Scope) _ ?h
  case h => (conv => lhs; whnf)
  case f => exact fun x _ => x
noncomputable def aP42 : Arguments := by
  refine' (?f : ∀ x, fP (st 36) = x → Arguments) _ ?h
  case h => (conv => lhs; whnf)
  case f => exact fun x _ => x
noncomputable def aB42 : List Stmt := by
  refine' (?f : ∀ x, fB (st 36) = x → List Stmt) _ ?h
  case h => (conv => lhs; whnf)
  case f => exact fun x _ => x
noncomputable def aS42 : Scope := by
  refine' (?f : ∀ x, fS (st 36) = x → Scope) _ ?h
  case h => (conv => lhs; whnf)
  case f => exact fun x _ => x
noncomputable def aP43 : Arguments := by
  refine' (?f : ∀ x, fP (sb 34 0) = x → Arguments) _ ?h
  case h => (conv => lhs; whnf)
  case f => exact fun x _ => x
noncomputable def aB43 : List Stmt := by
  refine' (?f : ∀ x, fB (sb 34 0) = x → List Stmt) _ ?h
  case h => (conv => lhs; whnf)
  case f => exact fun x _ => x
noncomputable def aS43 : Scope := by
  refine' (?f : ∀ x, fS (sb 34 0) = x → Scope) _ ?h
  case h => (conv => lhs; whnf)
  case f => exact fun x _ => x
noncomputable def aP44 : Arguments := by
  refine' (?f : ∀ x, fP (st 38) = x → Arguments) _ ?h
  case h => (conv => lhs; whnf)
  case f => exact fun x _ => x
noncomputable def aB44 : List Stmt := by
  refine' (?f : ∀ x, fB (st 38) = x → List Stmt) _ ?h
  case h => (conv => lhs; whnf)
  case f => exact fun x _ => x
noncomputable def aS44 : Scope := by
  refine' (?f : ∀ x, fS (st 38) = x → Scope) _ ?h
  case h => (conv => lhs; whnf)
  case f => exact fun x _ => x
noncomputable def aP48 : Arguments := by
  refine' (?f : ∀ x, fP (sb 34 1) = x → Arguments) _ ?h
  case h => (conv => lhs; whnf)
  case f => exact fun x _ => x
noncomputable def aB48 : List Stmt := by
  refine' (?f : ∀ x, fB (sb 34 1) = x → List Stmt) _ ?h
  case h => (conv => lhs; whnf)
  case f => exact fun x _ => x
noncomputable def aS48 : Scope := by
  refine' (?f : ∀ x, fS (sb 34 1) = x → Scope) _ ?h
  case h => (conv => lhs; whnf)
  case f => exact fun x _ => x
noncomputable def aP49 : Arguments := by
  refine' (?f : ∀ x, fP (st 35) = x → Arguments) _ ?h
  case h => (conv => lhs; whnf)
  case f => exact fun x _ => x
noncomputable def aB49 : List Stmt := by
  refine' (?f : ∀ x, fB (st 35) = x → List Stmt) _ ?h
  case h => (conv => lhs; whnf)
  case f => exact fun x _ => x
noncomputable def aS49 : Scope := by
  refine' (?f : ∀ x, fS (st 35) = x → Scope) _ ?h
  case h => (conv => lhs; whnf)
  case f => exact fun x _ => x
noncomputable def aP50 : Arguments := by
  refine' (?f : ∀ x, fP (st 37) = x → Arguments) _ ?h
  case h => (conv => lhs; whnf)
  case f => exact fun x _ => x
noncomputable def aB50 : List Stmt := by
  refine' (?f : ∀ x, fB (st 37) = x → List Stmt) _ ?h
  case h => (conv => lhs; whnf)
  case f => exact fun x _ => x
noncomputable def aS50 : Scope := by
  refine' (?f : ∀ x, fS (st 37) = x → Scope) _ ?h
  case h => (conv => lhs; whnf)
  case f => exact fun x _ => x
noncomputable def aP51 : Arguments := by
  refine' (?f : ∀ x, fP (sb 33 0) = x → Arguments) _ ?h
  case h => (conv => lhs; whnf)
  case f => exact fun x _ => x
noncomputable def aB51 : List Stmt := by
  refine' (?f : ∀ x, fB (sb 33 0) = x → List Stmt) _ ?h
  case h => (conv => lhs; whnf)
  case f => exact fun x _ => x
noncomputable def aS51 : Scope := by
  refine' (?f : ∀ x, fS (sb 33 0) = x → Scope) _ ?h
  case h => (conv => lhs; whnf)
  case f => exact fun x _ => x
noncomputable def aP56 : Arguments := by
  refine' (?f : ∀ x, fP (st 50) = x → Arguments) _ ?h
  case h => (conv => lhs; whnf)
  case f => exact fun x _ => x
noncomputable def aB56 : List Stmt := by
  refine' (?f : ∀ x, fB (st 50) = x → List Stmt) _ ?h
  case h => (conv => lhs; whnf)
  case f => exact fun x _ => x
noncomputable def aS56 : Scope := by
  refine' (?f : ∀ x, fS (st 50) = x → Scope) _ ?h
  case h => (conv => lhs; whnf)
  case f => exact fun x _ => x
noncomputable def aP57 : Arguments := by
  refine' (?f : ∀ x, fP (sb 52 0) = x → Arguments) _ ?h
  case h => (conv => lhs; whnf)
  case f => exact fun x _ => x
noncomputable def aB57 : List Stmt := by
  refine' (?f : ∀ x, fB (sb 52 0) = x → List Stmt) _ ?h
  case h => (conv => lhs; whnf)
  case f => exact fun x _ => x
noncomputable def aS57 : Scope := by
  refine' (?f : ∀ x, fS (sb 52 0) = x → Scope) _ ?h
  case h => (conv => lhs; whnf)
  case f => exact fun x _ => x
noncomputable def aP58 : Arguments := by
  refine' (?f : ∀ x, fP (st 42) = x → Arguments) _ ?h
  case h => (conv => lhs; whnf)
  case f => exact fun x _ => x
noncomputable def aB58 : List Stmt := by
  refine' (?f : ∀ x, fB (st 42) = x → List Stmt) _ ?h
  case h => (conv => lhs; whnf)
  case f => exact fun x _ => x
noncomputable def aP59 : Arguments := by
  refine' (?f : ∀ x, fP (st 56) = x → Arguments) _ ?h
  case h => (conv => lhs; whnf)
  case f => exact fun x _ => x
noncomputable def aB59 : List Stmt := by
  refine' (?f : ∀ x, fB (st 56) = x → List Stmt) _ ?h
  case h => (conv => lhs; whnf)
  case f => exact fun x _ => x
noncomputable def aS59 : Scope := by
  refine' (?f : ∀ x, fS (st 56) = x → Scope) _ ?h
  case h => (conv => lhs; whnf)
  case f => exact fun x _ => x
noncomputable def aP60 : Arguments := by
  refine' (?f : ∀ x, fP (st 44) = x → Arguments) _ ?h
  case h => (conv => lhs; whnf)
  case f => exact fun x _ => x
noncomputable def aB60 : List Stmt := by
  refine' (?f : ∀ x, fB (st 44) = x → List Stmt) _ ?h
  case h => (conv => lhs; whnf)
  case f => exact fun x _ => x
noncomputable def aS60 : Scope := by
  refine' (?f : ∀ x, fS (st 44) = x → Scope) _ ?h
  case h => (conv => lhs; whnf)
  case f => exact fun x _ => x
noncomputable def aP61 : Arguments := by
  refine' (?f : ∀ x, fP (st 46) = x → Arguments) _ ?h
  case h => (conv => lhs; whnf)
  case f => exact fun x _ => x
noncomputable def aB61 : List Stmt := by
  refine' (?f : ∀ x, fB (st 46) = x → List Stmt) _ ?h
  case h => (conv => lhs; whnf)
  case f => exact fun x _ => x
noncomputable def aS61 : Scope := by
  refine' (?f : ∀ x, fS (st 46) = x → Scope) _ ?h
  case h => (conv => lhs; whnf)
  case f => exact fun x _ => x
noncomputable def aP62 : Arguments := by
  refine' (?f : ∀ x, fP (st 58) = x → Arguments) _ ?h
  case h => (conv => lhs; whnf)
  case f => exact fun x _ => x
noncomputable def aB62 : List Stmt := by
  refine' (?f : ∀ x, fB (st 58) = x → List Stmt) _ ?h
  case h => (conv => lhs; whnf)
  case f => exact fun x _ => x
noncomputable def aS62 : Scope := by
  refine' (?f : ∀ x, fS (st 58) = x → Scope) _ ?h
  case h => (conv => lhs; whnf)
  case f => exact fun x _ => x
noncomputable def aP63 : Arguments := by
  refine' (?f : ∀ x, fP (st 48) = x → Arguments) _ ?h
  case h => (conv => lhs; whnf)
  case f => exact fun x _ => x
noncomputable def aB63 : List Stmt := by
  refine' (?f : ∀ x, fB (st 48) = x → List Stmt) _ ?h
  case h => (conv => lhs; whnf)
  case f => exact fun x _ => x
noncomputable def aP64 : Arguments := by
  refine' (?f : ∀ x, fP (st 54) = x → Arguments) _ ?h
  case h => (conv => lhs; whnf)
  case f => exact fun x _ => x
noncomputable def aB64 : List Stmt := by
  refine' (?f : ∀ x, fB (st 54) = x → List Stmt) _ ?h
  case h => (conv => lhs; whnf)
  case f => exact fun x _ => x
noncomputable def aS64 : Scope := by
  refine' (?f : ∀ x, fS (st 54) = x → Scope) _ ?h
  case h => (conv => lhs; whnf)
  case f => exact fun x _ => x
noncomputable def aP65 : Arguments := by
  refine' (?f : ∀ x, fP (st 40) = x → Arguments) _ ?h
  case h => (conv => lhs; whnf)
  case f => exact fun x _ => x
noncomputable def aB65 : List Stmt := by
  refine' (?f : ∀ x, fB (st 40) = x → List Stmt) _ ?h
  case h => (conv => lhs; whnf)
  case f => exact fun x _ => x
noncomputable def aP76 : Arguments := by
  refine' (?f : ∀ x, fP (st 41) = x → Arguments) _ ?h
  case h => (conv => lhs; whnf)
  case f => exact fun x _ => x
noncomputable def aB76 : List Stmt := by
  refine' (?f : ∀ x, fB (st 41) = x → List Stmt) _ ?h
  case h => (conv => lhs; whnf)
  case f => exact fun x _ => x
noncomputable def aP77 : Arguments := by
  refine' (?f : ∀ x, fP (st 55) = x → Arguments) _ ?h
  case h => (conv => lhs; whnf)
  case f => exact fun x _ => x
noncomputable def aB77 : List Stmt := by
  refine' (?f : ∀ x, fB (st 55) = x → List Stmt) _ ?h
  case h => (conv => lhs; whnf)
  case f => exact fun x _ => x
noncomputable def aS77 : Scope := by
  refine' (?f : ∀ x, fS (st 55) = x → Scope) _ ?h
  case h => (conv => lhs; whnf)
  case f => exact fun x _ => x
noncomputable def aP78 : Arguments := by
  refine' (?f : ∀ x, fP (st 43) = x → Arguments) _ ?h
  case h => (conv => lhs; whnf)
  case f => exact fun x _ => x
noncomputable def aB78 : List Stmt := by
  refine' (?f : ∀ x, fB (st 43) = x → List Stmt) _ ?h
  case h => (conv => lhs; whnf)
  case f => exact fun x _ => x
noncomputable def aS78 : Scope := by
  refine' (?f : ∀ x, fS (st 43) = x → Scope) _ ?h
  case h => (conv => lhs; whnf)
  case f => exact fun x _ => x
noncomputable def aP79 : Arguments := by
  refine' (?f : ∀ x, fP (st 57) = x → Arguments) _ ?h
  case h => (conv => lhs; whnf)
  case f => exact fun x _ => x
noncomputable def aB79 : List Stmt := by
  refine' (?f : ∀ x, fB (st 57) = x → List Stmt) _ ?h
  case h => (conv => lhs; whnf)
  case f => exact fun x _ => x
noncomputable def aS79 : Scope := by
  refine' (?f : ∀ x, fS (st 57) = x → Scope) _ ?h
  case h => (conv => lhs; whnf)
  case f => exact fun x _ => x
noncomputable def aP80 : Arguments := by
  refine' (?f : ∀ x, fP (st 49) = x → Arguments) _ ?h
  case h => (conv => lhs; whnf)
  case f => exact fun x _ => x
noncomputable def aB80 : List Stmt := by
  refine' (?f : ∀ x, fB (st 49) = x → List Stmt) _ ?h
  case h => (conv => lhs; whnf)
  case f => exact fun x _ => x
noncomputable def aS80 : Scope := by
  refine' (?f : ∀ x, fS (st 49) = x → Scope) _ ?h
  case h => (conv => lhs; whnf)
  case f => exact fun x _ => x
noncomputable def aP81 : Arguments := by
  refine' (?f : ∀ x, fP (st 39) = x → Arguments) _ ?h
  case h => (conv => lhs; whnf)
  case f => exact fun x _ => x
noncomputable def aB81 : List Stmt := by
  refine' (?f : ∀ x, fB (st 39) = x → List Stmt) _ ?h
  case h => (conv => lhs; whnf)
  case f => exact fun x _ => x
noncomputable def aP82 : Arguments := by
  refine' (?f : ∀ x, fP (st 47) = x → Arguments) _ ?h
  case h => (conv => lhs; whnf)
  case f => exact fun x _ => x
noncomputable def aB82 : List Stmt := by
  refine' (?f : ∀ x, fB (st 47) = x → List Stmt) _ ?h
  case h => (conv => lhs; whnf)
  case f => exact fun x _ => x
noncomputable def aS82 : Scope := by
  refine' (?f : ∀ x, fS (st 47) = x → Scope) _ ?h
  case h => (conv => lhs; whnf)
  case f => exact fun x _ => x
noncomputable def aP83 : Arguments := by
  refine' (?f : ∀ x, fP (st 45) = x → Arguments) _ ?h
  case h => (conv => lhs; whnf)
  case f => exact fun x _ => x
noncomputable def aB83 : List Stmt := by
  refine' (?f : ∀ x, fB (st 45) = x → List Stmt) _ ?h
  case h => (conv => lhs; whnf)
  case f => exact fun x _ => x
noncomputable def tree_47 (P : Params) : BT := BT.node (boot_o_0 P) (BT.node (boot_o_1 P) (BT.node (boot_o_3 P) (BT.node (boot_o_7 P) BT.nil BT.nil) (BT.node (Obj.mk (Value.type "tuple") Option.none (Data.seq #[] 0) #[]) BT.nil BT.nil)) (BT.node (boot_o_5 P) (BT.node (boot_o_9 P) BT.nil BT.nil) (BT.node (Obj.mk (Value.type "code") Option.none (Data.fields #[Value.str (Str.ofString "<module>") 182, Value.str (Str.ofString "<module>") 183, Value.str (Str.ofString "/claim/cut.py") 184, Value.int 1 0, Value.int 0 0, Value.int 0 0, Value.int 0 0, Value.int 0 0, Value.ref 11, Value.bool Bool.false, Value.int 181 0, Value.ref 12, Value.none, Value.none, Value.none, Value.none, Value.int 185 0, Value.int 1 0, Value.str (Str.ofString "/claim/cut.py") 186]) #[]) BT.nil BT.nil))) (BT.node (boot_o_2 P) (BT.node (boot_o_4 P) (BT.node (boot_o_8 P) BT.nil BT.nil) (BT.node (Obj.mk Value.none Option.none (Data.fields #[]) #[]) BT.nil BT.nil)) (BT.node (boot_o_6 P) (BT.node (boot_o_10 P) BT.nil BT.nil) (BT.node (Obj.mk (Value.type "frame") Option.none Data.plain #[Option.some (Value.ref 13), Option.some (Value.ref 3), Option.some (Value.ref 3), Option.none, Option.some (Value.str (Str.ofString "__main__") 164), Option.none, Option.some (Value.ref 0)]) BT.nil BT.nil)))
noncomputable def tree_274 (P : Params) : BT := BT.node (boot_o_0 P) (BT.node (boot_o_1 P) (BT.node (Obj.mk (Value.type "dict") Option.none (Data.dict #[DictEntry.mk (PyData.keyHash P (Str.ofString "__name__")) (Value.str (Str.ofString "__name__") 165) (Value.str (Str.ofString "ledgerspeak.machine") 472), DictEntry.mk (PyData.keyHash P (Str.ofString "__doc__")) (Value.str (Str.ofString "__doc__") 166) Value.none, DictEntry.mk (PyData.keyHash P (Str.ofString "__package__")) (Value.str (Str.ofString "__package__") 167) Value.none, DictEntry.mk (PyData.keyHash P (Str.ofString "__loader__")) (Value.str (Str.ofString "__loader__") 168) (Value.builtin "__main__.__loader__#opaque"), DictEntry.mk (PyData.keyHash P (Str.ofString "__spec__")) (Value.str (Str.ofString "__spec__") 169) Value.none, DictEntry.mk (PyData.keyHash P (Str.ofString "__annotations__")) (Value.str (Str.ofString "__annotations__") 170) (Value.ref 6), DictEntry.mk (PyData.keyHash P (Str.ofString "__builtins__")) (Value.str (Str.ofString "__builtins__") 171) (Value.ref 4), DictEntry.mk (PyData.keyHash P (Str.ofString "__file__")) (Value.str (Str.ofString "__file__") 173) (Value.str (Str.ofString "/claim/cut.py") 172), DictEntry.mk (PyData.keyHash P (Str.ofString "__cached__")) (Value.str (Str.ofString "__cached__") 174) Value.none, DictEntry.mk (PyData.keyHash P (Str.ofString "LET")) (Value.str (Str.ofString "LET") 191) (Value.int (-1) 190), DictEntry.mk (PyData.keyHash P (Str.ofString "Code")) (Value.str (Str.ofString "Code") 229) (Value.ref 38), DictEntry.mk (PyData.keyHash P (Str.ofString "labels_of")) (Value.str (Str.ofString "labels_of") 236) (Value.ref 49), DictEntry.mk (PyData.keyHash P (Str.ofString "relabelled")) (Value.str (Str.ofString "relabelled") 242) (Value.ref 54), DictEntry.mk (PyData.keyHash P (Str.ofString "pressed")) (Value.str (Str.ofString "pressed") 250) (Value.ref 59), DictEntry.mk (PyData.keyHash P (Str.ofString "LedgerError")) (Value.str (Str.ofString "LedgerError") 292) (Value.ref 85), DictEntry.mk (PyData.keyHash P (Str.ofString "RunFault")) (Value.str (Str.ofString "RunFault") 308) (Value.ref 98), DictEntry.mk (PyData.keyHash P (Str.ofString "SizeFault")) (Value.str (Str.ofString "SizeFault") 324) (Value.ref 110), DictEntry.mk (PyData.keyHash P (Str.ofString "StepFault")) (Value.str (Str.ofString "StepFault") 340) (Value.ref 122), DictEntry.mk (PyData.keyHash P (Str.ofString "MOST_PLACES")) (Value.str (Str.ofString "MOST_PLACES") 344) (Value.int 30 343), DictEntry.mk (PyData.keyHash P (Str.ofString "MOST_POWER")) (Value.str (Str.ofString "MOST_POWER") 346) (Value.int 99 345), DictEntry.mk (PyData.keyHash P (Str.ofString "MOST_FIGURES")) (Value.str (Str.ofString "MOST_FIGURES") 348) (Value.int 120 347), DictEntry.mk (PyData.keyHash P (Str.ofString "cut_quotient")) (Value.str (Str.ofString "cut_quotient") 356) (Value.ref 131), DictEntry.mk (PyData.keyHash P (Str.ofString "decimal")) (Value.str (Str.ofString "decimal") 365) (Value.ref 139), DictEntry.mk (PyData.keyHash P (Str.ofString "kept")) (Value.str (Str.ofString "kept") 373) (Value.ref 146), DictEntry.mk (PyData.keyHash P (Str.ofString "units_beside")) (Value.str (Str.ofString "units_beside") 382) (Value.ref 153), DictEntry.mk (PyData.keyHash P (Str.ofString "plus")) (Value.str (Str.ofString "plus") 393) (Value.ref 160), DictEntry.mk (PyData.keyHash P (Str.ofString "minus")) (Value.str (Str.ofString "minus") 404) (Value.ref 167), DictEntry.mk (PyData.keyHash P (Str.ofString "times")) (Value.str (Str.ofString "times") 412) (Value.ref 174), DictEntry.mk (PyData.keyHash P (Str.ofString "negated")) (Value.str (Str.ofString "negated") 419) (Value.ref 181), DictEntry.mk (PyData.keyHash P (Str.ofString "quotient")) (Value.str (Str.ofString "quotient") 428) (Value.ref 189), DictEntry.mk (PyData.keyHash P (Str.ofString "power")) (Value.str (Str.ofString "power") 438) (Value.ref 196), DictEntry.mk (PyData.keyHash P (Str.ofString "units_at")) (Value.str (Str.ofString "units_at") 449) (Value.ref 203), DictEntry.mk (PyData.keyHash P (Str.ofString "is_whole")) (Value.str (Str.ofString "is_whole") 456) (Value.ref 210), DictEntry.mk (PyData.keyHash P (Str.ofString "whole_of")) (Value.str (Str.ofString "whole_of") 463) (Value.ref 217), DictEntry.mk (PyData.keyHash P (Str.ofString "fits")) (Value.str (Str.ofString "fits") 471) (Value.ref 224), DictEntry.mk (PyData.keyHash P (Str.ofString "MOST_FRAMES")) (Value.str (Str.ofString "MOST_FRAMES") 475) (Value.int 20 474), DictEntry.mk (PyData.keyHash P (Str.ofString "NO_LABEL")) (Value.str (Str.ofString "NO_LABEL") 478) (Value.int (-1) 477)] 37) #[]) (BT.node (boot_o_7 P) (BT.node (Obj.mk (Value.type "tuple") Option.none (Data.seq #[] 0) #[]) (BT.node (Obj.mk (Value.type "tuple") Option.none (Data.seq #[Value.str (Str.ofString "self") 216] 0) #[]) (BT.node (Obj.mk (Value.type "tuple") Option.none (Data.seq #[] 0) #[]) (BT.node (Obj.mk (Value.type "tuple") Option.none (Data.seq #[Value.str (Str.ofString "top") 352, Value.str (Str.ofString "bottom") 353] 0) #[]) BT.nil BT.nil) (BT.node (Obj.mk Value.none Option.none (Data.fields #[]) #[]) BT.nil BT.nil)) (BT.node (Obj.mk (Value.type "frame") Option.none Data.plain #[Option.some (Value.ref 94), Option.some (Value.ref 3), Option.some (Value.ref 91), Option.none, Option.some (Value.str (Str.ofString "ledgerspeak.errors") 251), Option.none, Option.some (Value.ref 0)]) (BT.node (Obj.mk (Value.type "code") Option.none (Data.fields #[Value.str (Str.ofString "plus") 383, Value.str (Str.ofString "plus") 384, Value.str (Str.ofString "/claim/cut.py") 385, Value.int 81 0, Value.int 2 0, Value.int 0 0, Value.int 0 0, Value.int 3 0, Value.ref 154, Value.bool Bool.true, Value.int 181 0, Value.ref 155, Value.none, Value.ref 156, Value.ref 157, Value.ref 158, Value.int 391 0, Value.int 81 0, Value.str (Str.ofString "/claim/cut.py") 392]) #[]) BT.nil BT.nil) (BT.node (Obj.mk (Value.type "code") Option.none (Data.fields #[Value.str (Str.ofString "fits") 464, Value.str (Str.ofString "fits") 465, Value.str (Str.ofString "/claim/cut.py") 466, Value.int 116 0, Value.int 2 0, Value.int 0 0, Value.int 0 0, Value.int 3 0, Value.ref 218, Value.bool Bool.true, Value.int 181 0, Value.ref 219, Value.none, Value.ref 220, Value.ref 221, Value.ref 222, Value.int 469 0, Value.int 116 0, Value.str (Str.ofString "/claim/cut.py") 470]) #[]) BT.nil BT.nil))) (BT.node (Obj.mk Value.none Option.none (Data.func (FuncData.mk (Str.ofString "labels_of") (Str.ofString "labels_of") aP0 (FuncBody.stmts aB0) aS0 0 [] Value.none Value.none Value.none Value.none Option.none Value.none Value.none 0)) #[]) (BT.node (Obj.mk (Value.type "tuple") Option.none (Data.seq #[] 0) #[]) (BT.node (Obj.mk (Value.type "tuple") Option.none (Data.seq #[] 0) #[]) BT.nil BT.nil) (BT.node (Obj.mk (Value.type "tuple") Option.none (Data.seq #[] 0) #[]) BT.nil BT.nil)) (BT.node (Obj.mk (Value.type "super") Option.none (Data.fields #[Value.ref 110, Value.ref 110, Value.ref 110]) #[]) (BT.node (Obj.mk (Value.type "tuple") Option.none (Data.seq #[] 0) #[]) BT.nil BT.nil) BT.nil))) (BT.node (Obj.mk Value.none Option.none (Data.fields #[]) #[]) (BT.node (Obj.mk (Value.type "getset_descriptor") Option.none (Data.fields #[Value.str (Str.ofString "__dict__") 223, Value.ref 38, Value.builtin "function.__dict__", Value.builtin "function.__dict__#set"]) #[]) (BT.node (Obj.mk (Value.type "tuple") Option.none (Data.seq #[Value.str (Str.ofString "self") 270, Value.str (Str.ofString "what") 271, Value.str (Str.ofString "at") 272] 0) #[]) (BT.node (Obj.mk (Value.type "tuple") Option.none (Data.seq #[Value.str (Str.ofString "units") 361, Value.str (Str.ofString "scale") 362] 0) #[]) BT.nil BT.nil) (BT.node (Obj.mk (Value.type "tuple") Option.none (Data.seq #[Value.str (Str.ofString "a") 442, Value.str (Str.ofString "scale") 443, Value.str (Str.ofString "is_rounded") 444, Value.str (Str.ofString "size") 445, Value.str (Str.ofString "half") 446] 0) #[]) BT.nil BT.nil)) (BT.node (Obj.mk (Value.type "dict") Option.none (Data.dict #[DictEntry.mk (PyData.keyHash P (Str.ofString "__module__")) (Value.str (Str.ofString "__module__") 316) (Value.str (Str.ofString "ledgerspeak.errors") 251), DictEntry.mk (PyData.keyHash P (Str.ofString "__qualname__")) (Value.str (Str.ofString "__qualname__") 318) (Value.str (Str.ofString "SizeFault") 317), DictEntry.mk (PyData.keyHash P (Str.ofString "__firstlineno__")) (Value.str (Str.ofString "__firstlineno__") 320) (Value.int 52 319), DictEntry.mk (PyData.keyHash P (Str.ofString "__static_attributes__")) (Value.str (Str.ofString "__static_attributes__") 321) (Value.ref 108)] 4) #[]) (BT.node (Obj.mk (Value.type "function") Option.none (Data.func (FuncData.mk (Str.ofString "minus") (Str.ofString "minus") aP14 (FuncBody.stmts aB14) aS14 3 [] Value.none Value.none Value.none (Value.str (Str.ofString "ledgerspeak.decimals") 341) Option.none (Value.ref 166) Value.none 0)) #[]) BT.nil BT.nil) BT.nil)) (BT.node (Obj.mk (Value.type "tuple") Option.none (Data.seq #[] 0) #[]) (BT.node (Obj.mk (Value.type "super") Option.none (Data.fields #[Value.ref 85, Value.ref 85, Value.ref 85]) #[]) (BT.node (Obj.mk Value.none Option.none (Data.func (FuncData.mk (Str.ofString "units_beside") (Str.ofString "units_beside") aP15 (FuncBody.stmts aB15) aS15 0 [] Value.none Value.none Value.none Value.none Option.none Value.none Value.none 0)) #[]) BT.nil BT.nil) (BT.node (Obj.mk Value.none Option.none (Data.func (FuncData.mk (Str.ofString "whole_of") (Str.ofString "whole_of") aP16 (FuncBody.stmts aB16) aS16 0 [] Value.none Value.none Value.none Value.none Option.none Value.none Value.none 0)) #[]) BT.nil BT.nil)) (BT.node (Obj.mk (Value.type "frame") Option.none Data.plain #[Option.some (Value.ref 118), Option.some (Value.ref 3), Option.some (Value.ref 115), Option.none, Option.some (Value.str (Str.ofString "ledgerspeak.errors") 251), Option.none, Option.some (Value.ref 0)]) (BT.node (Obj.mk (Value.type "tuple") Option.none (Data.seq #[] 0) #[]) BT.nil BT.nil) BT.nil)))) (BT.node (Obj.mk (Value.type "tuple") Option.none (Data.seq #[] 0) #[]) (BT.node (Obj.mk Value.none Option.none (Data.fields #[Value.int 5 0, Value.int 4 0, Value.ref 27, Value.int 9 0, Value.int 4 0, Value.ref 34]) #[]) (BT.node (Obj.mk (Value.type "function") Option.none (Data.func (FuncData.mk (Str.ofString "told") (Str.ofString "Code.told") aP1 (FuncBody.stmts aB1) aS1 3 [] Value.none Value.none Value.none (Value.str (Str.ofString "ledgerspeak.codes") 187) Option.none (Value.ref 34) Value.none 0)) #[]) (BT.node (Obj.mk (Value.type "tuple") Option.none (Data.seq #[Value.int 0 265, Value.int 0 266] 0) #[]) (BT.node (Obj.mk (Value.type "function") Option.none (Data.func (FuncData.mk (Str.ofString "cut_quotient") (Str.ofString "cut_quotient") aP17 (FuncBody.stmts aB17) aS17 3 [] Value.none Value.none Value.none (Value.str (Str.ofString "ledgerspeak.decimals") 341) Option.none (Value.ref 130) Value.none 0)) #[]) BT.nil BT.nil) (BT.node (Obj.mk (Value.type "code") Option.none (Data.fields #[Value.str (Str.ofString "power") 429, Value.str (Str.ofString "power") 430, Value.str (Str.ofString "/claim/cut.py") 431, Value.int 95 0, Value.int 2 0, Value.int 0 0, Value.int 0 0, Value.int 3 0, Value.ref 190, Value.bool Bool.true, Value.int 181 0, Value.ref 191, Value.none, Value.ref 192, Value.ref 193, Value.ref 194, Value.int 436 0, Value.int 95 0, Value.str (Str.ofString "/claim/cut.py") 437]) #[]) BT.nil BT.nil)) (BT.node (Obj.mk (Value.type "super") Option.none (Data.fields #[Value.ref 98, Value.ref 98, Value.ref 98]) #[]) (BT.node (Obj.mk (Value.type "tuple") Option.none (Data.seq #[Value.str (Str.ofString "a") 397, Value.str (Str.ofString "b") 398, Value.str (Str.ofString "first") 399, Value.str (Str.ofString "second") 400, Value.str (Str.ofString "scale") 401] 0) #[]) BT.nil BT.nil) BT.nil)) (BT.node (Obj.mk Value.none Option.none (Data.fields #[]) #[]) (BT.node (Obj.mk (Value.type "tuple") Option.none (Data.seq #[Value.str (Str.ofString "at") 283, Value.str (Str.ofString "what") 284] 0) #[]) (BT.node (Obj.mk (Value.type "tuple") Option.none (Data.seq #[] 0) #[]) BT.nil BT.nil) (BT.node (Obj.mk (Value.type "tuple") Option.none (Data.seq #[] 0) #[]) BT.nil BT.nil)) (BT.node (Obj.mk (Value.type "dict") Option.none (Data.dict #[DictEntry.mk (PyData.keyHash P (Str.ofString "__module__")) (Value.str (Str.ofString "__module__") 332) (Value.str (Str.ofString "ledgerspeak.errors") 251), DictEntry.mk (PyData.keyHash P (Str.ofString "__qualname__")) (Value.str (Str.ofString "__qualname__") 334) (Value.str (Str.ofString "StepFault") 333), DictEntry.mk (PyData.keyHash P (Str.ofString "__firstlineno__")) (Value.str (Str.ofString "__firstlineno__") 336) (Value.int 54 335), DictEntry.mk (PyData.keyHash P (Str.ofString "__static_attributes__")) (Value.str (Str.ofString "__static_attributes__") 337) (Value.ref 120)] 4) #[]) (BT.node (Obj.mk Value.none Option.none (Data.func (FuncData.mk (Str.ofString "negated") (Str.ofString "negated") aP18 (FuncBody.stmts aB18) aS18 0 [] Value.none Value.none Value.none Value.none Option.none Value.none Value.none 0)) #[]) BT.nil BT.nil) BT.nil))) (BT.node (Obj.mk (Value.type "code") Option.none (Data.fields #[Value.str (Str.ofString "__init__") 204, Value.str (Str.ofString "Code.__init__") 205, Value.str (Str.ofString "/claim/cut.py") 206, Value.int 5 0, Value.int 3 0, Value.int 0 0, Value.int 0 0, Value.int 3 0, Value.ref 22, Value.bool Bool.true, Value.int 181 0, Value.ref 23, Value.none, Value.ref 24, Value.ref 25, Value.ref 26, Value.int 210 0, Value.int 5 0, Value.str (Str.ofString "/claim/cut.py") 211]) #[]) (BT.node (Obj.mk (Value.type "tuple") Option.none (Data.seq #[] 0) #[]) (BT.node (Obj.mk (Value.type "function") Option.none (Data.func (FuncData.mk (Str.ofString "__init__") (Str.ofString "LedgerError.__init__") aP2 (FuncBody.stmts aB2) aS2 3 [] (Value.ref 68) Value.none Value.none (Value.str (Str.ofString "ledgerspeak.errors") 251) Option.none (Value.ref 74) Value.none 0)) #[]) (BT.node (Obj.mk (Value.type "function") Option.none (Data.func (FuncData.mk (Str.ofString "decimal") (Str.ofString "decimal") aP19 (FuncBody.stmts aB19) aS19 3 [] (Value.ref 132) Value.none Value.none (Value.str (Str.ofString "ledgerspeak.decimals") 341) Option.none (Value.ref 138) Value.none 0)) #[]) BT.nil BT.nil) (BT.node (Obj.mk (Value.type "function") Option.none (Data.func (FuncData.mk (Str.ofString "units_at") (Str.ofString "units_at") aP20 (FuncBody.stmts aB20) aS20 3 [] Value.none Value.none Value.none (Value.str (Str.ofString "ledgerspeak.decimals") 341) Option.none (Value.ref 202) Value.none 0)) #[]) BT.nil BT.nil)) (BT.node (Obj.mk (Value.type "frame") Option.none Data.plain #[Option.some (Value.ref 106), Option.some (Value.ref 3), Option.some (Value.ref 103), Option.none, Option.some (Value.str (Str.ofString "ledgerspeak.errors") 251), Option.none, Option.some (Value.ref 0)]) (BT.node (Obj.mk (Value.type "tuple") Option.none (Data.seq #[] 0) #[]) BT.nil BT.nil) BT.nil)) (BT.node (Obj.mk (Value.type "function") Option.none (Data.func (FuncData.mk (Str.ofString "pressed") (Str.ofString "pressed") aP3 (FuncBody.stmts aB3) aS3 3 [] Value.none Value.none Value.none (Value.str (Str.ofString "ledgerspeak.peephole") 243) Option.none (Value.ref 58) Value.none 0)) #[]) (BT.node (Obj.mk (Value.type "dict") Option.none (Data.dict #[DictEntry.mk (PyData.keyHash P (Str.ofString "__module__")) (Value.str (Str.ofString "__module__") 300) (Value.str (Str.ofString "ledgerspeak.errors") 251), DictEntry.mk (PyData.keyHash P (Str.ofString "__qualname__")) (Value.str (Str.ofString "__qualname__") 302) (Value.str (Str.ofString "RunFault") 301), DictEntry.mk (PyData.keyHash P (Str.ofString "__firstlineno__")) (Value.str (Str.ofString "__firstlineno__") 304) (Value.int 50 303), DictEntry.mk (PyData.keyHash P (Str.ofString "__static_attributes__")) (Value.str (Str.ofString "__static_attributes__") 305) (Value.ref 96)] 4) #[]) (BT.node (Obj.mk Value.none Option.none (Data.fields #[]) #[]) BT.nil BT.nil) (BT.node (Obj.mk Value.none Option.none (Data.fields #[]) #[]) BT.nil BT.nil)) (BT.node (Obj.mk (Value.type "super") Option.none (Data.fields #[Value.ref 122, Value.ref 122, Value.ref 122]) #[]) (BT.node (Obj.mk Value.none Option.none (Data.func (FuncData.mk (Str.ofString "quotient") (Str.ofString "quotient") aP21 (FuncBody.stmts aB21) aS21 0 [] Value.none Value.none Value.none Value.none Option.none Value.none Value.none 0)) #[]) BT.nil BT.nil) BT.nil))))) (BT.node (boot_o_5 P) (BT.node (boot_o_9 P) (BT.node (Obj.mk (Value.type "dict") Option.none (Data.dict #[DictEntry.mk (PyData.keyHash P (Str.ofString "__module__")) (Value.str (Str.ofString "__module__") 199) (Value.str (Str.ofString "ledgerspeak.codes") 187), DictEntry.mk (PyData.keyHash P (Str.ofString "__qualname__")) (Value.str (Str.ofString "__qualname__") 201) (Value.str (Str.ofString "Code") 200), DictEntry.mk (PyData.keyHash P (Str.ofString "__firstlineno__")) (Value.str (Str.ofString "__firstlineno__") 203) (Value.int 3 202), DictEntry.mk (PyData.keyHash P (Str.ofString "__init__")) (Value.str (Str.ofString "__init__") 212) (Value.ref 28), DictEntry.mk (PyData.keyHash P (Str.ofString "told")) (Value.str (Str.ofString "told") 219) (Value.ref 35), DictEntry.mk (PyData.keyHash P (Str.ofString "__static_attributes__")) (Value.str (Str.ofString "__static_attributes__") 222) (Value.ref 36)] 6) #[]) (BT.node (Obj.mk Value.none Option.none (Data.func (FuncData.mk (Str.ofString "told") (Str.ofString "Code.told") aP1 (FuncBody.stmts aB1) aS1 0 [] Value.none Value.none Value.none Value.none Option.none Value.none Value.none 0)) #[]) (BT.node (Obj.mk (Value.type "code") Option.none (Data.fields #[Value.str (Str.ofString "LedgerError") 255, Value.str (Str.ofString "LedgerError") 256, Value.str (Str.ofString "/claim/cut.py") 257, Value.int 41 0, Value.int 0 0, Value.int 0 0, Value.int 0 0, Value.int 0 0, Value.ref 63, Value.bool Bool.false, Value.int 181 0, Value.ref 64, Value.none, Value.none, Value.none, Value.none, Value.int 258 0, Value.int 41 0, Value.str (Str.ofString "/claim/cut.py") 259]) #[]) (BT.node (Obj.mk Value.none Option.none (Data.func (FuncData.mk (Str.ofString "cut_quotient") (Str.ofString "cut_quotient") aP17 (FuncBody.stmts aB17) aS17 0 [] Value.none Value.none Value.none Value.none Option.none Value.none Value.none 0)) #[]) BT.nil BT.nil) (BT.node (Obj.mk (Value.type "tuple") Option.none (Data.seq #[] 0) #[]) BT.nil BT.nil)) (BT.node (Obj.mk (Value.type "dict") Option.none (Data.dict #[DictEntry.mk (PyData.keyHash P (Str.ofString "__module__")) (Value.str (Str.ofString "__module__") 300) (Value.str (Str.ofString "ledgerspeak.errors") 251), DictEntry.mk (PyData.keyHash P (Str.ofString "__firstlineno__")) (Value.str (Str.ofString "__firstlineno__") 304) (Value.int 50 303), DictEntry.mk (PyData.keyHash P (Str.ofString "__static_attributes__")) (Value.str (Str.ofString "__static_attributes__") 305) (Value.ref 96), DictEntry.mk (PyData.keyHash P (Str.ofString "__doc__")) (Value.str (Str.ofString "__doc__") 306) Value.none] 2) #[]) (BT.node (Obj.mk (Value.type "tuple") Option.none (Data.seq #[] 0) #[]) BT.nil BT.nil) BT.nil)) (BT.node (Obj.mk (Value.type "function") Option.none (Data.func (FuncData.mk (Str.ofString "labels_of") (Str.ofString "labels_of") aP0 (FuncBody.stmts aB0) aS0 3 [] Value.none Value.none Value.none (Value.str (Str.ofString "ledgerspeak.codes") 187) Option.none (Value.ref 48) Value.none 0)) #[]) (BT.node (Obj.mk (Value.type "code") Option.none (Data.fields #[Value.str (Str.ofString "told") 276, Value.str (Str.ofString "LedgerError.told") 277, Value.str (Str.ofString "/claim/cut.py") 278, Value.int 48 0, Value.int 1 0, Value.int 0 0, Value.int 0 0, Value.int 3 0, Value.ref 76, Value.bool Bool.true, Value.int 181 0, Value.ref 77, Value.none, Value.ref 78, Value.ref 79, Value.ref 80, Value.int 280 0, Value.int 48 0, Value.str (Str.ofString "/claim/cut.py") 281]) #[]) (BT.node (Obj.mk (Value.type "code") Option.none (Data.fields #[Value.str (Str.ofString "kept") 366, Value.str (Str.ofString "kept") 367, Value.str (Str.ofString "/claim/cut.py") 368, Value.int 71 0, Value.int 2 0, Value.int 0 0, Value.int 0 0, Value.int 3 0, Value.ref 140, Value.bool Bool.true, Value.int 181 0, Value.ref 141, Value.none, Value.ref 142, Value.ref 143, Value.ref 144, Value.int 371 0, Value.int 71 0, Value.str (Str.ofString "/claim/cut.py") 372]) #[]) BT.nil BT.nil) (BT.node (Obj.mk (Value.type "code") Option.none (Data.fields #[Value.str (Str.ofString "is_whole") 450, Value.str (Str.ofString "is_whole") 451, Value.str (Str.ofString "/claim/cut.py") 452, Value.int 112 0, Value.int 1 0, Value.int 0 0, Value.int 0 0, Value.int 3 0, Value.ref 204, Value.bool Bool.true, Value.int 181 0, Value.ref 205, Value.none, Value.ref 206, Value.ref 207, Value.ref 208, Value.int 454 0, Value.int 112 0, Value.str (Str.ofString "/claim/cut.py") 455]) #[]) BT.nil BT.nil)) (BT.node (Obj.mk (Value.type "tuple") Option.none (Data.seq #[Value.ref 85] 0) #[]) (BT.node (Obj.mk (Value.type "tuple") Option.none (Data.seq #[Value.str (Str.ofString "a") 416] 0) #[]) BT.nil BT.nil) BT.nil))) (BT.node (Obj.mk (Value.type "tuple") Option.none (Data.seq #[] 0) #[]) (BT.node (Obj.mk (Value.type "super") Option.none (Data.fields #[Value.ref 38, Value.ref 38, Value.ref 38]) #[]) (BT.node (Obj.mk Value.none Option.none (Data.func (FuncData.mk (Str.ofString "__init__") (Str.ofString "LedgerError.__init__") aP2 (FuncBody.stmts aB2) aS2 0 [] Value.none Value.none Value.none Value.none Option.none Value.none Value.none 0)) #[]) (BT.node (Obj.mk Value.none Option.none (Data.func (FuncData.mk (Str.ofString "decimal") (Str.ofString "decimal") aP19 (FuncBody.stmts aB19) aS19 0 [] Value.none Value.none Value.none Value.none Option.none Value.none Value.none 0)) #[]) BT.nil BT.nil) (BT.node (Obj.mk Value.none Option.none (Data.func (FuncData.mk (Str.ofString "units_at") (Str.ofString "units_at") aP20 (FuncBody.stmts aB20) aS20 0 [] Value.none Value.none Value.none Value.none Option.none Value.none Value.none 0)) #[]) BT.nil BT.nil)) (BT.node (Obj.mk Value.none Option.none (Data.fields #[]) #[]) (BT.node (Obj.mk Value.none Option.none (Data.fields #[]) #[]) BT.nil BT.nil) BT.nil)) (BT.node (Obj.mk Value.none Option.none (Data.func (FuncData.mk (Str.ofString "pressed") (Str.ofString "pressed") aP3 (FuncBody.stmts aB3) aS3 0 [] Value.none Value.none Value.none Value.none Option.none Value.none Value.none 0)) #[]) (BT.node (Obj.mk (Value.type "tuple") Option.none (Data.seq #[Value.ref 85] 0) #[]) (BT.node (Obj.mk (Value.type "function") Option.none (Data.func (FuncData.mk (Str.ofString "units_beside") (Str.ofString "units_beside") aP15 (FuncBody.stmts aB15) aS15 3 [] Value.none Value.none Value.none (Value.str (Str.ofString "ledgerspeak.decimals") 341) Option.none (Value.ref 152) Value.none 0)) #[]) BT.nil BT.nil) (BT.node (Obj.mk (Value.type "function") Option.none (Data.func (FuncData.mk (Str.ofString "whole_of") (Str.ofString "whole_of") aP16 (FuncBody.stmts aB16) aS16 3 [] Value.none Value.none Value.none (Value.str (Str.ofString "ledgerspeak.decimals") 341) Option.none (Value.ref 216) Value.none 0)) #[]) BT.nil BT.nil)) (BT.node (Obj.mk (Value.type "dict") Option.none (Data.dict #[DictEntry.mk (PyData.keyHash P (Str.ofString "__module__")) (Value.str (Str.ofString "__module__") 332) (Value.str (Str.ofString "ledgerspeak.errors") 251), DictEntry.mk (PyData.keyHash P (Str.ofString "__firstlineno__")) (Value.str (Str.ofString "__firstlineno__") 336) (Value.int 54 335), DictEntry.mk (PyData.keyHash P (Str.ofString "__static_attributes__")) (Value.str (Str.ofString "__static_attributes__") 337) (Value.ref 120), DictEntry.mk (PyData.keyHash P (Str.ofString "__doc__")) (Value.str (Str.ofString "__doc__") 338) Value.none] 2) #[]) (BT.node (Obj.mk (Value.type "tuple") Option.none (Data.seq #[Value.str (Str.ofString "a") 423, Value.str (Str.ofString "b") 424, Value.str (Str.ofString "many") 425] 0) #[]) BT.nil BT.nil) BT.nil)))) (BT.node (Obj.mk (Value.type "code") Option.none (Data.fields #[Value.str (Str.ofString "<module>") 182, Value.str (Str.ofString "<module>") 183, Value.str (Str.ofString "/claim/cut.py") 184, Value.int 1 0, Value.int 0 0, Value.int 0 0, Value.int 0 0, Value.int 0 0, Value.ref 11, Value.bool Bool.false, Value.int 181 0, Value.ref 12, Value.none, Value.none, Value.none, Value.none, Value.int 185 0, Value.int 1 0, Value.str (Str.ofString "/claim/cut.py") 186]) #[]) (BT.node (Obj.mk (Value.type "frame") Option.none Data.plain #[Option.some (Value.ref 20), Option.some (Value.ref 3), Option.some (Value.ref 17), Option.none, Option.some (Value.str (Str.ofString "ledgerspeak.codes") 187), Option.none, Option.some (Value.ref 0)]) (BT.node (Obj.mk (Value.type "dict") Option.none (Data.dict #[DictEntry.mk (PyData.keyHash P (Str.ofString "__module__")) (Value.str (Str.ofString "__module__") 199) (Value.str (Str.ofString "ledgerspeak.codes") 187), DictEntry.mk (PyData.keyHash P (Str.ofString "__firstlineno__")) (Value.str (Str.ofString "__firstlineno__") 203) (Value.int 3 202), DictEntry.mk (PyData.keyHash P (Str.ofString "__init__")) (Value.str (Str.ofString "__init__") 212) (Value.ref 28), DictEntry.mk (PyData.keyHash P (Str.ofString "told")) (Value.str (Str.ofString "told") 219) (Value.ref 35), DictEntry.mk (PyData.keyHash P (Str.ofString "__static_attributes__")) (Value.str (Str.ofString "__static_attributes__") 222) (Value.ref 36), DictEntry.mk (PyData.keyHash P (Str.ofString "__dict__")) (Value.str (Str.ofString "__dict__") 224) (Value.ref 39), DictEntry.mk (PyData.keyHash P (Str.ofString "__weakref__")) (Value.str (Str.ofString "__weakref__") 226) (Value.ref 40), DictEntry.mk (PyData.keyHash P (Str.ofString "__doc__")) (Value.str (Str.ofString "__doc__") 227) Value.none] 4) #[]) (BT.node (Obj.mk (Value.type "tuple") Option.none (Data.seq #[] 0) #[]) (BT.node (Obj.mk (Value.type "tuple") Option.none (Data.seq #[] 0) #[]) BT.nil BT.nil) (BT.node (Obj.mk (Value.type "tuple") Option.none (Data.seq #[] 0) #[]) BT.nil BT.nil)) (BT.node (Obj.mk (Value.type "tuple") Option.none (Data.seq #[Value.ref 85] 0) #[]) (BT.node (Obj.mk Value.none Option.none (Data.func (FuncData.mk (Str.ofString "minus") (Str.ofString "minus") aP14 (FuncBody.stmts aB14) aS14 0 [] Value.none Value.none Value.none Value.none Option.none Value.none Value.none 0)) #[]) BT.nil BT.nil) BT.nil)) (BT.node (Obj.mk (Value.type "code") Option.none (Data.fields #[Value.str (Str.ofString "relabelled") 237, Value.str (Str.ofString "relabelled") 238, Value.str (Str.ofString "/claim/cut.py") 239, Value.int 19 0, Value.int 2 0, Value.int 0 0, Value.int 0 0, Value.int 3 0, Value.ref 50, Value.bool Bool.true, Value.int 181 0, Value.ref 51, Value.none, Value.none, Value.none, Value.ref 52, Value.int 240 0, Value.int 19 0, Value.str (Str.ofString "/claim/cut.py") 241]) #[]) (BT.node (Obj.mk (Value.type "type") Option.none (Data.cls (ClassData.mk (Str.ofString "LedgerError") [Value.type "Exception"] [Value.ref 85, Value.type "Exception", Value.type "BaseException", Value.type "object"] 84 (Str.ofString "LedgerError") Bool.true [] [Value.ref 98, Value.ref 110, Value.ref 122] Bool.false Option.none Bool.false)) #[Option.some (Value.ref 60), Option.none, Option.some (Value.str (Str.ofString "LedgerError") 253), Option.some (Value.str (Str.ofString "LedgerError") 261), Option.some (Value.builtin "Exception.__new__"), Option.some (Value.bool Bool.true)]) (BT.node (Obj.mk (Value.type "tuple") Option.none (Data.seq #[Value.str (Str.ofString "a") 377, Value.str (Str.ofString "b") 378, Value.str (Str.ofString "scale") 379] 0) #[]) BT.nil BT.nil) (BT.node (Obj.mk (Value.type "tuple") Option.none (Data.seq #[Value.str (Str.ofString "a") 460] 0) #[]) BT.nil BT.nil)) (BT.node (Obj.mk Value.none Option.none (Data.fields #[]) #[]) (BT.node (Obj.mk (Value.type "function") Option.none (Data.func (FuncData.mk (Str.ofString "negated") (Str.ofString "negated") aP18 (FuncBody.stmts aB18) aS18 3 [] Value.none Value.none Value.none (Value.str (Str.ofString "ledgerspeak.decimals") 341) Option.none (Value.ref 180) Value.none 0)) #[]) BT.nil BT.nil) BT.nil))) (BT.node (Obj.mk (Value.type "tuple") Option.none (Data.seq #[] 0) #[]) (BT.node (Obj.mk (Value.type "tuple") Option.none (Data.seq #[Value.str (Str.ofString "op") 233] 0) #[]) (BT.node (Obj.mk Value.none Option.none (Data.fields #[]) #[]) (BT.node (Obj.mk Value.none Option.none (Data.fields #[]) #[]) BT.nil BT.nil) (BT.node (Obj.mk Value.none Option.none (Data.fields #[]) #[]) BT.nil BT.nil)) (BT.node (Obj.mk (Value.type "dict") Option.none (Data.dict #[DictEntry.mk (PyData.keyHash P (Str.ofString "__module__")) (Value.str (Str.ofString "__module__") 316) (Value.str (Str.ofString "ledgerspeak.errors") 251), DictEntry.mk (PyData.keyHash P (Str.ofString "__firstlineno__")) (Value.str (Str.ofString "__firstlineno__") 320) (Value.int 52 319), DictEntry.mk (PyData.keyHash P (Str.ofString "__static_attributes__")) (Value.str (Str.ofString "__static_attributes__") 321) (Value.ref 108), DictEntry.mk (PyData.keyHash P (Str.ofString "__doc__")) (Value.str (Str.ofString "__doc__") 322) Value.none] 2) #[]) (BT.node (Obj.mk (Value.type "code") Option.none (Data.fields #[Value.str (Str.ofString "times") 405, Value.str (Str.ofString "times") 406, Value.str (Str.ofString "/claim/cut.py") 407, Value.int 87 0, Value.int 2 0, Value.int 0 0, Value.int 0 0, Value.int 3 0, Value.ref 168, Value.bool Bool.true, Value.int 181 0, Value.ref 169, Value.none, Value.ref 170, Value.ref 171, Value.ref 172, Value.int 410 0, Value.int 87 0, Value.str (Str.ofString "/claim/cut.py") 411]) #[]) BT.nil BT.nil) BT.nil)) (BT.node (Obj.mk (Value.type "builtin_function_or_method") Option.none (Data.fields #[Value.builtin "type.__prepare__", Value.type "type"]) #[]) (BT.node (Obj.mk Value.none Option.none (Data.fields #[]) #[]) (BT.node (Obj.mk (Value.type "tuple") Option.none (Data.seq #[] 0) #[]) BT.nil BT.nil) (BT.node (Obj.mk (Value.type "tuple") Option.none (Data.seq #[] 0) #[]) BT.nil BT.nil)) (BT.node (Obj.mk (Value.type "tuple") Option.none (Data.seq #[] 0) #[]) (BT.node (Obj.mk (Value.type "function") Option.none (Data.func (FuncData.mk (Str.ofString "quotient") (Str.ofString "quotient") aP21 (FuncBody.stmts aB21) aS21 3 [] (Value.ref 182) Value.none Value.none (Value.str (Str.ofString "ledgerspeak.decimals") 341) Option.none (Value.ref 188) Value.none 0)) #[]) BT.nil BT.nil) BT.nil)))))) (BT.node (Obj.mk Value.none Option.none (Data.dict #[DictEntry.mk (PyData.keyHash P (Str.ofString "type.__subclasses__.Exception.0")) (Value.str (Str.ofString "type.__subclasses__.Exception.0") 289) (Value.int 85 0), DictEntry.mk (PyData.keyHash P (Str.ofString "type.__subclasses__.Exception.n")) (Value.str (Str.ofString "type.__subclasses__.Exception.n") 290) (Value.int 1 0)] 2) #[]) (BT.node (boot_o_4 P) (BT.node (boot_o_8 P) (BT.node (Obj.mk (Value.type "builtin_function_or_method") Option.none (Data.fields #[Value.builtin "type.__prepare__", Value.type "type"]) #[]) (BT.node (Obj.mk (Value.type "tuple") Option.none (Data.seq #[] 0) #[]) (BT.node (Obj.mk Value.none Option.none (Data.fields #[Value.int 43 0, Value.int 4 0, Value.ref 74, Value.int 48 0, Value.int 4 0, Value.ref 81]) #[]) (BT.node (Obj.mk (Value.type "tuple") Option.none (Data.seq #[] 0) #[]) BT.nil BT.nil) (BT.node (Obj.mk (Value.type "tuple") Option.none (Data.seq #[Value.str (Str.ofString "a") 432, Value.str (Str.ofString "b") 433, Value.str (Str.ofString "found") 434, Value.str (Str.ofString "turn") 435] 0) #[]) BT.nil BT.nil)) (BT.node (Obj.mk (Value.type "tuple") Option.none (Data.seq #[] 0) #[]) (BT.node (Obj.mk (Value.type "function") Option.none (Data.func (FuncData.mk (Str.ofString "plus") (Str.ofString "plus") aP30 (FuncBody.stmts aB30) aS14 3 [] Value.none Value.none Value.none (Value.str (Str.ofString "ledgerspeak.decimals") 341) Option.none (Value.ref 159) Value.none 0)) #[]) BT.nil BT.nil) (BT.node (Obj.mk (Value.type "function") Option.none (Data.func (FuncData.mk (Str.ofString "fits") (Str.ofString "fits") aP31 (FuncBody.stmts aB31) aS31 3 [] Value.none Value.none Value.none (Value.str (Str.ofString "ledgerspeak.decimals") 341) Option.none (Value.ref 223) Value.none 0)) #[]) BT.nil BT.nil))) (BT.node (Obj.mk (Value.type "code") Option.none (Data.fields #[Value.str (Str.ofString "labels_of") 230, Value.str (Str.ofString "labels_of") 231, Value.str (Str.ofString "/claim/cut.py") 232, Value.int 11 0, Value.int 1 0, Value.int 0 0, Value.int 0 0, Value.int 3 0, Value.ref 43, Value.bool Bool.true, Value.int 181 0, Value.ref 44, Value.none, Value.ref 45, Value.ref 46, Value.ref 47, Value.int 234 0, Value.int 11 0, Value.str (Str.ofString "/claim/cut.py") 235]) #[]) (BT.node (Obj.mk Value.none Option.none (Data.func (FuncData.mk (Str.ofString "told") (Str.ofString "LedgerError.told") aP8 (FuncBody.stmts aB8) aS8 0 [] Value.none Value.none Value.none Value.none Option.none Value.none Value.none 0)) #[]) (BT.node (Obj.mk Value.none Option.none (Data.func (FuncData.mk (Str.ofString "kept") (Str.ofString "kept") aP32 (FuncBody.stmts aB32) aS32 0 [] Value.none Value.none Value.none Value.none Option.none Value.none Value.none 0)) #[]) BT.nil BT.nil) (BT.node (Obj.mk Value.none Option.none (Data.func (FuncData.mk (Str.ofString "is_whole") (Str.ofString "is_whole") aP33 (FuncBody.stmts aB33) aS18 0 [] Value.none Value.none Value.none Value.none Option.none Value.none Value.none 0)) #[]) BT.nil BT.nil)) (BT.node (Obj.mk (Value.type "builtin_function_or_method") Option.none (Data.fields #[Value.builtin "object.__init_subclass__", Value.ref 110]) #[]) (BT.node (Obj.mk Value.none Option.none (Data.fields #[]) #[]) BT.nil BT.nil) BT.nil))) (BT.node (Obj.mk (Value.type "tuple") Option.none (Data.seq #[Value.str (Str.ofString "self") 207, Value.str (Str.ofString "ops") 208, Value.str (Str.ofString "begins") 209] 0) #[]) (BT.node (Obj.mk (Value.type "getset_descriptor") Option.none (Data.fields #[Value.str (Str.ofString "__weakref__") 225, Value.ref 38, Value.builtin "ExceptionGroup.__weakref__", Value.none]) #[]) (BT.node (Obj.mk (Value.type "tuple") Option.none (Data.seq #[] 0) #[]) (BT.node (Obj.mk (Value.type "tuple") Option.none (Data.seq #[] 0) #[]) BT.nil BT.nil) (BT.node (Obj.mk (Value.type "tuple") Option.none (Data.seq #[] 0) #[]) BT.nil BT.nil)) (BT.node (Obj.mk (Value.type "tuple") Option.none (Data.seq #[] 0) #[]) (BT.node (Obj.mk (Value.type "tuple") Option.none (Data.seq #[] 0) #[]) BT.nil BT.nil) BT.nil)) (BT.node (Obj.mk Value.none Option.none (Data.fields #[]) #[]) (BT.node (Obj.mk (Value.type "builtin_function_or_method") Option.none (Data.fields #[Value.builtin "object.__init_subclass__", Value.ref 85]) #[]) (BT.node (Obj.mk (Value.type "code") Option.none (Data.fields #[Value.str (Str.ofString "units_beside") 374, Value.str (Str.ofString "units_beside") 375, Value.str (Str.ofString "/claim/cut.py") 376, Value.int 78 0, Value.int 2 0, Value.int 0 0, Value.int 0 0, Value.int 3 0, Value.ref 147, Value.bool Bool.true, Value.int 181 0, Value.ref 148, Value.none, Value.ref 149, Value.ref 150, Value.ref 151, Value.int 380 0, Value.int 78 0, Value.str (Str.ofString "/claim/cut.py") 381]) #[]) BT.nil BT.nil) (BT.node (Obj.mk (Value.type "code") Option.none (Data.fields #[Value.str (Str.ofString "whole_of") 457, Value.str (Str.ofString "whole_of") 458, Value.str (Str.ofString "/claim/cut.py") 459, Value.int 114 0, Value.int 1 0, Value.int 0 0, Value.int 0 0, Value.int 3 0, Value.ref 211, Value.bool Bool.true, Value.int 181 0, Value.ref 212, Value.none, Value.ref 213, Value.ref 214, Value.ref 215, Value.int 461 0, Value.int 114 0, Value.str (Str.ofString "/claim/cut.py") 462]) #[]) BT.nil BT.nil)) (BT.node (Obj.mk (Value.type "tuple") Option.none (Data.seq #[] 0) #[]) (BT.node (Obj.mk Value.none Option.none (Data.fields #[]) #[]) BT.nil BT.nil) BT.nil)))) (BT.node (Obj.mk Value.none Option.none (Data.fields #[Value.int 3 0, Value.int 0 0, Value.ref 20, Value.int 11 0, Value.int 0 0, Value.ref 48, Value.int 19 0, Value.int 0 0, Value.ref 53, Value.int 28 0, Value.int 0 0, Value.ref 58, Value.int 41 0, Value.int 0 0, Value.ref 65, Value.int 50 0, Value.int 0 0, Value.ref 94, Value.int 52 0, Value.int 0 0, Value.ref 106, Value.int 54 0, Value.int 0 0, Value.ref 118, Value.int 60 0, Value.int 0 0, Value.ref 130, Value.int 64 0, Value.int 0 0, Value.ref 138, Value.int 71 0, Value.int 0 0, Value.ref 145, Value.int 78 0, Value.int 0 0, Value.ref 152, Value.int 81 0, Value.int 0 0, Value.ref 159, Value.int 84 0, Value.int 0 0, Value.ref 166, Value.int 87 0, Value.int 0 0, Value.ref 173, Value.int 89 0, Value.int 0 0, Value.ref 180, Value.int 91 0, Value.int 0 0, Value.ref 188, Value.int 95 0, Value.int 0 0, Value.ref 195, Value.int 104 0, Value.int 0 0, Value.ref 202, Value.int 112 0, Value.int 0 0, Value.ref 209, Value.int 114 0, Value.int 0 0, Value.ref 216, Value.int 116 0, Value.int 0 0, Value.ref 223]) #[]) (BT.node (Obj.mk (Value.type "code") Option.none (Data.fields #[Value.str (Str.ofString "Code") 194, Value.str (Str.ofString "Code") 195, Value.str (Str.ofString "/claim/cut.py") 196, Value.int 3 0, Value.int 0 0, Value.int 0 0, Value.int 0 0, Value.int 0 0, Value.ref 18, Value.bool Bool.false, Value.int 181 0, Value.ref 19, Value.none, Value.none, Value.none, Value.none, Value.int 197 0, Value.int 3 0, Value.str (Str.ofString "/claim/cut.py") 198]) #[]) (BT.node (Obj.mk (Value.type "tuple") Option.none (Data.seq #[Value.str (Str.ofString "begins") 220, Value.str (Str.ofString "ops") 221] 0) #[]) (BT.node (Obj.mk (Value.type "tuple") Option.none (Data.seq #[Value.ref 67] 0) #[]) (BT.node (Obj.mk (Value.type "tuple") Option.none (Data.seq #[Value.int 0 357] 0) #[]) BT.nil BT.nil) (BT.node (Obj.mk (Value.type "function") Option.none (Data.func (FuncData.mk (Str.ofString "power") (Str.ofString "power") aP34 (FuncBody.stmts aB34) aS34 3 [] Value.none Value.none Value.none (Value.str (Str.ofString "ledgerspeak.decimals") 341) Option.none (Value.ref 195) Value.none 0)) #[]) BT.nil BT.nil)) (BT.node (Obj.mk (Value.type "builtin_function_or_method") Option.none (Data.fields #[Value.builtin "object.__init_subclass__", Value.ref 98]) #[]) (BT.node (Obj.mk (Value.type "tuple") Option.none (Data.seq #[] 0) #[]) BT.nil BT.nil) BT.nil)) (BT.node (Obj.mk Value.none Option.none (Data.func (FuncData.mk (Str.ofString "relabelled") (Str.ofString "relabelled") aP9 (FuncBody.stmts aB9) aS9 0 [] Value.none Value.none Value.none Value.none Option.none Value.none Value.none 0)) #[]) (BT.node (Obj.mk (Value.type "dict") Option.none (Data.dict #[DictEntry.mk (PyData.keyHash P (Str.ofString "__module__")) (Value.str (Str.ofString "__module__") 260) (Value.str (Str.ofString "ledgerspeak.errors") 251), DictEntry.mk (PyData.keyHash P (Str.ofString "__firstlineno__")) (Value.str (Str.ofString "__firstlineno__") 264) (Value.int 41 263), DictEntry.mk (PyData.keyHash P (Str.ofString "__init__")) (Value.str (Str.ofString "__init__") 275) (Value.ref 75), DictEntry.mk (PyData.keyHash P (Str.ofString "told")) (Value.str (Str.ofString "told") 282) (Value.ref 82), DictEntry.mk (PyData.keyHash P (Str.ofString "__static_attributes__")) (Value.str (Str.ofString "__static_attributes__") 285) (Value.ref 83), DictEntry.mk (PyData.keyHash P (Str.ofString "__weakref__")) (Value.str (Str.ofString "__weakref__") 287) (Value.ref 86), DictEntry.mk (PyData.keyHash P (Str.ofString "__doc__")) (Value.str (Str.ofString "__doc__") 288) Value.none] 3) #[]) (BT.node (Obj.mk Value.none Option.none (Data.fields #[]) #[]) BT.nil BT.nil) (BT.node (Obj.mk Value.none Option.none (Data.fields #[]) #[]) BT.nil BT.nil)) (BT.node (Obj.mk (Value.type "tuple") Option.none (Data.seq #[] 0) #[]) (BT.node (Obj.mk (Value.type "code") Option.none (Data.fields #[Value.str (Str.ofString "negated") 413, Value.str (Str.ofString "negated") 414, Value.str (Str.ofString "/claim/cut.py") 415, Value.int 89 0, Value.int 1 0, Value.int 0 0, Value.int 0 0, Value.int 3 0, Value.ref 175, Value.bool Bool.true, Value.int 181 0, Value.ref 176, Value.none, Value.ref 177, Value.ref 178, Value.ref 179, Value.int 417 0, Value.int 89 0, Value.str (Str.ofString "/claim/cut.py") 418]) #[]) BT.nil BT.nil) BT.nil))) (BT.node (Obj.mk (Value.type "function") Option.none (Data.func (FuncData.mk (Str.ofString "__init__") (Str.ofString "Code.__init__") aP10 (FuncBody.stmts aB10) aS10 3 [] Value.none Value.none Value.none (Value.str (Str.ofString "ledgerspeak.codes") 187) Option.none (Value.ref 27) Value.none 0)) #[]) (BT.node (Obj.mk Value.none Option.none (Data.fields #[]) #[]) (BT.node (Obj.mk (Value.type "tuple") Option.none (Data.seq #[] 0) #[]) (BT.node (Obj.mk (Value.type "tuple") Option.none (Data.seq #[] 0) #[]) BT.nil BT.nil) (BT.node (Obj.mk (Value.type "tuple") Option.none (Data.seq #[] 0) #[]) BT.nil BT.nil)) (BT.node (Obj.mk (Value.type "tuple") Option.none (Data.seq #[] 0) #[]) (BT.node (Obj.mk Value.none Option.none (Data.func (FuncData.mk (Str.ofString "times") (Str.ofString "times") aP35 (FuncBody.stmts aB35) aS35 0 [] Value.none Value.none Value.none Value.none Option.none Value.none Value.none 0)) #[]) BT.nil BT.nil) BT.nil)) (BT.node (Obj.mk (Value.type "tuple") Option.none (Data.seq #[Value.type "Exception"] 0) #[]) (BT.node (Obj.mk (Value.type "tuple") Option.none (Data.seq #[] 0) #[]) (BT.node (Obj.mk (Value.type "tuple") Option.none (Data.seq #[Value.str (Str.ofString "a") 386, Value.str (Str.ofString "b") 387, Value.str (Str.ofString "first") 388, Value.str (Str.ofString "second") 389, Value.str (Str.ofString "scale") 390] 0) #[]) BT.nil BT.nil) (BT.node (Obj.mk (Value.type "tuple") Option.none (Data.seq #[Value.str (Str.ofString "units") 467, Value.str (Str.ofString "digits") 468] 0) #[]) BT.nil BT.nil)) (BT.node (Obj.mk (Value.type "builtin_function_or_method") Option.none (Data.fields #[Value.builtin "object.__init_subclass__", Value.ref 122]) #[]) (BT.node (Obj.mk (Value.type "code") Option.none (Data.fields #[Value.str (Str.ofString "quotient") 420, Value.str (Str.ofString "quotient") 421, Value.str (Str.ofString "/claim/cut.py") 422, Value.int 91 0, Value.int 3 0, Value.int 0 0, Value.int 0 0, Value.int 3 0, Value.ref 183, Value.bool Bool.true, Value.int 181 0, Value.ref 184, Value.none, Value.ref 185, Value.ref 186, Value.ref 187, Value.int 426 0, Value.int 91 0, Value.str (Str.ofString "/claim/cut.py") 427]) #[]) BT.nil BT.nil) BT.nil))))) (BT.node (boot_o_6 P) (BT.node (boot_o_10 P) (BT.node (Obj.mk (Value.type "tuple") Option.none (Data.seq #[] 0) #[]) (BT.node (Obj.mk (Value.type "code") Option.none (Data.fields #[Value.str (Str.ofString "told") 213, Value.str (Str.ofString "Code.told") 214, Value.str (Str.ofString "/claim/cut.py") 215, Value.int 9 0, Value.int 1 0, Value.int 0 0, Value.int 0 0, Value.int 3 0, Value.ref 29, Value.bool Bool.true, Value.int 181 0, Value.ref 30, Value.none, Value.ref 31, Value.ref 32, Value.ref 33, Value.int 217 0, Value.int 9 0, Value.str (Str.ofString "/claim/cut.py") 218]) #[]) (BT.node (Obj.mk (Value.type "frame") Option.none Data.plain #[Option.some (Value.ref 65), Option.some (Value.ref 3), Option.some (Value.ref 62), Option.none, Option.some (Value.str (Str.ofString "ledgerspeak.errors") 251), Option.none, Option.some (Value.ref 0)]) (BT.node (Obj.mk (Value.type "code") Option.none (Data.fields #[Value.str (Str.ofString "cut_quotient") 349, Value.str (Str.ofString "cut_quotient") 350, Value.str (Str.ofString "/claim/cut.py") 351, Value.int 60 0, Value.int 2 0, Value.int 0 0, Value.int 0 0, Value.int 3 0, Value.ref 125, Value.bool Bool.true, Value.int 181 0, Value.ref 126, Value.none, Value.ref 127, Value.ref 128, Value.ref 129, Value.int 354 0, Value.int 60 0, Value.str (Str.ofString "/claim/cut.py") 355]) #[]) BT.nil BT.nil) (BT.node (Obj.mk Value.none Option.none (Data.func (FuncData.mk (Str.ofString "power") (Str.ofString "power") aP34 (FuncBody.stmts aB34) aS34 0 [] Value.none Value.none Value.none Value.none Option.none Value.none Value.none 0)) #[]) BT.nil BT.nil)) (BT.node (Obj.mk (Value.type "type") Option.none (Data.cls (ClassData.mk (Str.ofString "RunFault") [Value.ref 85] [Value.ref 98, Value.ref 85, Value.type "Exception", Value.type "BaseException", Value.type "object"] 97 (Str.ofString "RunFault") Bool.true [] [] Bool.false Option.none Bool.false)) #[Option.some (Value.ref 89), Option.none, Option.some (Value.str (Str.ofString "RunFault") 293), Option.some (Value.str (Str.ofString "RunFault") 301), Option.some (Value.builtin "Exception.__new__"), Option.some (Value.bool Bool.true)]) (BT.node (Obj.mk Value.none Option.none (Data.fields #[]) #[]) BT.nil BT.nil) BT.nil)) (BT.node (Obj.mk (Value.type "tuple") Option.none (Data.seq #[] 0) #[]) (BT.node (Obj.mk (Value.type "function") Option.none (Data.func (FuncData.mk (Str.ofString "told") (Str.ofString "LedgerError.told") aP8 (FuncBody.stmts aB8) aS8 3 [] Value.none Value.none Value.none (Value.str (Str.ofString "ledgerspeak.errors") 251) Option.none (Value.ref 81) Value.none 0)) #[]) (BT.node (Obj.mk (Value.type "function") Option.none (Data.func (FuncData.mk (Str.ofString "kept") (Str.ofString "kept") aP32 (FuncBody.stmts aB32) aS32 3 [] Value.none Value.none Value.none (Value.str (Str.ofString "ledgerspeak.decimals") 341) Option.none (Value.ref 145) Value.none 0)) #[]) BT.nil BT.nil) (BT.node (Obj.mk (Value.type "function") Option.none (Data.func (FuncData.mk (Str.ofString "is_whole") (Str.ofString "is_whole") aP33 (FuncBody.stmts aB33) aS18 3 [] Value.none Value.none Value.none (Value.str (Str.ofString "ledgerspeak.decimals") 341) Option.none (Value.ref 209) Value.none 0)) #[]) BT.nil BT.nil)) (BT.node (Obj.mk (Value.type "builtin_function_or_method") Option.none (Data.fields #[Value.builtin "type.__prepare__", Value.type "type"]) #[]) (BT.node (Obj.mk (Value.type "tuple") Option.none (Data.seq #[] 0) #[]) BT.nil BT.nil) BT.nil))) (BT.node (Obj.mk Value.none Option.none (Data.func (FuncData.mk (Str.ofString "__init__") (Str.ofString "Code.__init__") aP10 (FuncBody.stmts aB10) aS10 0 [] Value.none Value.none Value.none Value.none Option.none Value.none Value.none 0)) #[]) (BT.node (Obj.mk (Value.type "builtin_function_or_method") Option.none (Data.fields #[Value.builtin "object.__init_subclass__", Value.ref 38]) #[]) (BT.node (Obj.mk (Value.type "code") Option.none (Data.fields #[Value.str (Str.ofString "__init__") 267, Value.str (Str.ofString "LedgerError.__init__") 268, Value.str (Str.ofString "/claim/cut.py") 269, Value.int 43 0, Value.int 3 0, Value.int 0 0, Value.int 0 0, Value.int 3 0, Value.ref 69, Value.bool Bool.true, Value.int 181 0, Value.ref 70, Value.none, Value.ref 71, Value.ref 72, Value.ref 73, Value.int 273 0, Value.int 43 0, Value.str (Str.ofString "/claim/cut.py") 274]) #[]) (BT.node (Obj.mk (Value.type "code") Option.none (Data.fields #[Value.str (Str.ofString "decimal") 358, Value.str (Str.ofString "decimal") 359, Value.str (Str.ofString "/claim/cut.py") 360, Value.int 64 0, Value.int 2 0, Value.int 0 0, Value.int 0 0, Value.int 3 0, Value.ref 133, Value.bool Bool.true, Value.int 181 0, Value.ref 134, Value.none, Value.ref 135, Value.ref 136, Value.ref 137, Value.int 363 0, Value.int 64 0, Value.str (Str.ofString "/claim/cut.py") 364]) #[]) BT.nil BT.nil) (BT.node (Obj.mk (Value.type "code") Option.none (Data.fields #[Value.str (Str.ofString "units_at") 439, Value.str (Str.ofString "units_at") 440, Value.str (Str.ofString "/claim/cut.py") 441, Value.int 104 0, Value.int 3 0, Value.int 0 0, Value.int 0 0, Value.int 3 0, Value.ref 197, Value.bool Bool.true, Value.int 181 0, Value.ref 198, Value.none, Value.ref 199, Value.ref 200, Value.ref 201, Value.int 447 0, Value.int 104 0, Value.str (Str.ofString "/claim/cut.py") 448]) #[]) BT.nil BT.nil)) (BT.node (Obj.mk (Value.type "code") Option.none (Data.fields #[Value.str (Str.ofString "SizeFault") 311, Value.str (Str.ofString "SizeFault") 312, Value.str (Str.ofString "/claim/cut.py") 313, Value.int 52 0, Value.int 0 0, Value.int 0 0, Value.int 0 0, Value.int 0 0, Value.ref 104, Value.bool Bool.false, Value.int 181 0, Value.ref 105, Value.none, Value.none, Value.none, Value.none, Value.int 314 0, Value.int 52 0, Value.str (Str.ofString "/claim/cut.py") 315]) #[]) (BT.node (Obj.mk (Value.type "tuple") Option.none (Data.seq #[Value.str (Str.ofString "a") 408, Value.str (Str.ofString "b") 409] 0) #[]) BT.nil BT.nil) BT.nil)) (BT.node (Obj.mk (Value.type "code") Option.none (Data.fields #[Value.str (Str.ofString "pressed") 245, Value.str (Str.ofString "pressed") 246, Value.str (Str.ofString "/claim/cut.py") 247, Value.int 28 0, Value.int 2 0, Value.int 0 0, Value.int 0 0, Value.int 3 0, Value.ref 55, Value.bool Bool.true, Value.int 181 0, Value.ref 56, Value.none, Value.none, Value.none, Value.ref 57, Value.int 248 0, Value.int 28 0, Value.str (Str.ofString "/claim/cut.py") 249]) #[]) (BT.node (Obj.mk (Value.type "builtin_function_or_method") Option.none (Data.fields #[Value.builtin "type.__prepare__", Value.type "type"]) #[]) (BT.node (Obj.mk (Value.type "tuple") Option.none (Data.seq #[] 0) #[]) BT.nil BT.nil) (BT.node (Obj.mk (Value.type "tuple") Option.none (Data.seq #[] 0) #[]) BT.nil BT.nil)) (BT.node (Obj.mk (Value.type "type") Option.none (Data.cls (ClassData.mk (Str.ofString "StepFault") [Value.ref 85] [Value.ref 122, Value.ref 85, Value.type "Exception", Value.type "BaseException", Value.type "object"] 121 (Str.ofString "StepFault") Bool.true [] [] Bool.false Option.none Bool.false)) #[Option.some (Value.ref 113), Option.none, Option.some (Value.str (Str.ofString "StepFault") 325), Option.some (Value.str (Str.ofString "StepFault") 333), Option.some (Value.builtin "Exception.__new__"), Option.some (Value.bool Bool.true)]) (BT.node (Obj.mk (Value.type "tuple") Option.none (Data.seq #[] 0) #[]) BT.nil BT.nil) BT.nil)))) (BT.node (Obj.mk (Value.type "frame") Option.none Data.plain #[Option.some (Value.ref 13), Option.some (Value.ref 3), Option.some (Value.ref 3), Option.none, Option.some (Value.str (Str.ofString "__main__") 164), Option.none, Option.some (Value.ref 0)]) (BT.node (Obj.mk (Value.type "tuple") Option.none (Data.seq #[] 0) #[]) (BT.node (Obj.mk (Value.type "type") Option.none (Data.cls (ClassData.mk (Str.ofString "Code") [Value.type "object"] [Value.ref 38, Value.type "object"] 37 (Str.ofString "Code") Bool.true [] [] Bool.false Option.none Bool.false)) #[Option.none, Option.none, Option.some (Value.str (Str.ofString "Code") 192), Option.some (Value.str (Str.ofString "Code") 200), Option.some (Value.builtin "object.__new__"), Option.some (Value.bool Bool.true)]) (BT.node (Obj.mk Value.none Option.none (Data.fields #[]) #[]) (BT.node (Obj.mk Value.none Option.none (Data.fields #[]) #[]) BT.nil BT.nil) (BT.node (Obj.mk Value.none Option.none (Data.fields #[]) #[]) BT.nil BT.nil)) (BT.node (Obj.mk (Value.type "builtin_function_or_method") Option.none (Data.fields #[Value.builtin "type.__prepare__", Value.type "type"]) #[]) (BT.node (Obj.mk (Value.type "code") Option.none (Data.fields #[Value.str (Str.ofString "minus") 394, Value.str (Str.ofString "minus") 395, Value.str (Str.ofString "/claim/cut.py") 396, Value.int 84 0, Value.int 2 0, Value.int 0 0, Value.int 0 0, Value.int 3 0, Value.ref 161, Value.bool Bool.true, Value.int 181 0, Value.ref 162, Value.none, Value.ref 163, Value.ref 164, Value.ref 165, Value.int 402 0, Value.int 84 0, Value.str (Str.ofString "/claim/cut.py") 403]) #[]) BT.nil BT.nil) BT.nil)) (BT.node (Obj.mk (Value.type "function") Option.none (Data.func (FuncData.mk (Str.ofString "relabelled") (Str.ofString "relabelled") aP9 (FuncBody.stmts aB9) aS9 3 [] Value.none Value.none Value.none (Value.str (Str.ofString "ledgerspeak.codes") 187) Option.none (Value.ref 53) Value.none 0)) #[]) (BT.node (Obj.mk (Value.type "getset_descriptor") Option.none (Data.fields #[Value.str (Str.ofString "__weakref__") 286, Value.ref 85, Value.builtin "ExceptionGroup.__weakref__", Value.none]) #[]) (BT.node (Obj.mk (Value.type "tuple") Option.none (Data.seq #[] 0) #[]) BT.nil BT.nil) (BT.node (Obj.mk (Value.type "tuple") Option.none (Data.seq #[] 0) #[]) BT.nil BT.nil)) (BT.node (Obj.mk (Value.type "code") Option.none (Data.fields #[Value.str (Str.ofString "StepFault") 327, Value.str (Str.ofString "StepFault") 328, Value.str (Str.ofString "/claim/cut.py") 329, Value.int 54 0, Value.int 0 0, Value.int 0 0, Value.int 0 0, Value.int 0 0, Value.ref 116, Value.bool Bool.false, Value.int 181 0, Value.ref 117, Value.none, Value.none, Value.none, Value.none, Value.int 330 0, Value.int 54 0, Value.str (Str.ofString "/claim/cut.py") 331]) #[]) (BT.node (Obj.mk (Value.type "tuple") Option.none (Data.seq #[Value.int 30 343] 0) #[]) BT.nil BT.nil) BT.nil))) (BT.node (Obj.mk Value.none Option.none (Data.fields #[]) #[]) (BT.node (Obj.mk (Value.type "tuple") Option.none (Data.seq #[] 0) #[]) (BT.node (Obj.mk (Value.type "tuple") Option.none (Data.seq #[Value.str (Str.ofString "self") 279] 0) #[]) (BT.node (Obj.mk (Value.type "tuple") Option.none (Data.seq #[Value.str (Str.ofString "units") 369, Value.str (Str.ofString "scale") 370] 0) #[]) BT.nil BT.nil) (BT.node (Obj.mk (Value.type "tuple") Option.none (Data.seq #[Value.str (Str.ofString "a") 453] 0) #[]) BT.nil BT.nil)) (BT.node (Obj.mk (Value.type "type") Option.none (Data.cls (ClassData.mk (Str.ofString "SizeFault") [Value.ref 85] [Value.ref 110, Value.ref 85, Value.type "Exception", Value.type "BaseException", Value.type "object"] 109 (Str.ofString "SizeFault") Bool.true [] [] Bool.false Option.none Bool.false)) #[Option.some (Value.ref 101), Option.none, Option.some (Value.str (Str.ofString "SizeFault") 309), Option.some (Value.str (Str.ofString "SizeFault") 317), Option.some (Value.builtin "Exception.__new__"), Option.some (Value.bool Bool.true)]) (BT.node (Obj.mk (Value.type "function") Option.none (Data.func (FuncData.mk (Str.ofString "times") (Str.ofString "times") aP35 (FuncBody.stmts aB35) aS35 3 [] Value.none Value.none Value.none (Value.str (Str.ofString "ledgerspeak.decimals") 341) Option.none (Value.ref 173) Value.none 0)) #[]) BT.nil BT.nil) BT.nil)) (BT.node (Obj.mk (Value.type "dict") Option.none (Data.dict #[DictEntry.mk (PyData.keyHash P (Str.ofString "__module__")) (Value.str (Str.ofString "__module__") 260) (Value.str (Str.ofString "ledgerspeak.errors") 251), DictEntry.mk (PyData.keyHash P (Str.ofString "__qualname__")) (Value.str (Str.ofString "__qualname__") 262) (Value.str (Str.ofString "LedgerError") 261), DictEntry.mk (PyData.keyHash P (Str.ofString "__firstlineno__")) (Value.str (Str.ofString "__firstlineno__") 264) (Value.int 41 263), DictEntry.mk (PyData.keyHash P (Str.ofString "__init__")) (Value.str (Str.ofString "__init__") 275) (Value.ref 75), DictEntry.mk (PyData.keyHash P (Str.ofString "told")) (Value.str (Str.ofString "told") 282) (Value.ref 82), DictEntry.mk (PyData.keyHash P (Str.ofString "__static_attributes__")) (Value.str (Str.ofString "__static_attributes__") 285) (Value.ref 83)] 6) #[]) (BT.node (Obj.mk (Value.type "code") Option.none (Data.fields #[Value.str (Str.ofString "RunFault") 295, Value.str (Str.ofString "RunFault") 296, Value.str (Str.ofString "/claim/cut.py") 297, Value.int 50 0, Value.int 0 0, Value.int 0 0, Value.int 0 0, Value.int 0 0, Value.ref 92, Value.bool Bool.false, Value.int 181 0, Value.ref 93, Value.none, Value.none, Value.none, Value.none, Value.int 298 0, Value.int 50 0, Value.str (Str.ofString "/claim/cut.py") 299]) #[]) (BT.node (Obj.mk Value.none Option.none (Data.func (FuncData.mk (Str.ofString "plus") (Str.ofString "plus") aP30 (FuncBody.stmts aB30) aS14 0 [] Value.none Value.none Value.none Value.none Option.none Value.none Value.none 0)) #[]) BT.nil BT.nil) (BT.node (Obj.mk Value.none Option.none (Data.func (FuncData.mk (Str.ofString "fits") (Str.ofString "fits") aP31 (FuncBody.stmts aB31) aS31 0 [] Value.none Value.none Value.none Value.none Option.none Value.none Value.none 0)) #[]) BT.nil BT.nil)) (BT.node (Obj.mk Value.none Option.none (Data.fields #[]) #[]) (BT.node (Obj.mk (Value.type "tuple") Option.none (Data.seq #[] 0) #[]) BT.nil BT.nil) BT.nil))))))
noncomputable def tree_495 (P : Params) : BT := BT.node (boot_o_0 P) (BT.node (boot_o_1 P) (BT.node (Obj.mk (Value.type "dict") Option.none (Data.dict #[DictEntry.mk (PyData.keyHash P (Str.ofString "__name__")) (Value.str (Str.ofString "__name__") 165) (Value.str (Str.ofString "law_pb0246_01") 727), DictEntry.mk (PyData.keyHash P (Str.ofString "__doc__")) (Value.str (Str.ofString "__doc__") 166) Value.none, DictEntry.mk (PyData.keyHash P (Str.ofString "__package__")) (Value.str (Str.ofString "__package__") 167) Value.none, DictEntry.mk (PyData.keyHash P (Str.ofString "__loader__")) (Value.str (Str.ofString "__loader__") 168) (Value.builtin "__main__.__loader__#opaque"), DictEntry.mk (PyData.keyHash P (Str.ofString "__spec__")) (Value.str (Str.ofString "__spec__") 169) Value.none, DictEntry.mk (PyData.keyHash P (Str.ofString "__annotations__")) (Value.str (Str.ofString "__annotations__") 170) (Value.ref 6), DictEntry.mk (PyData.keyHash P (Str.ofString "__builtins__")) (Value.str (Str.ofString "__builtins__") 171) (Value.ref 4), DictEntry.mk (PyData.keyHash P (Str.ofString "__file__")) (Value.str (Str.ofString "__file__") 173) (Value.str (Str.ofString "/claim/cut.py") 172), DictEntry.mk (PyData.keyHash P (Str.ofString "__cached__")) (Value.str (Str.ofString "__cached__") 174) Value.none, DictEntry.mk (PyData.keyHash P (Str.ofString "LET")) (Value.str (Str.ofString "LET") 191) (Value.int (-1) 190), DictEntry.mk (PyData.keyHash P (Str.ofString "Code")) (Value.str (Str.ofString "Code") 229) (Value.ref 38), DictEntry.mk (PyData.keyHash P (Str.ofString "labels_of")) (Value.str (Str.ofString "labels_of") 236) (Value.ref 49), DictEntry.mk (PyData.keyHash P (Str.ofString "relabelled")) (Value.str (Str.ofString "relabelled") 242) (Value.ref 54), DictEntry.mk (PyData.keyHash P (Str.ofString "pressed")) (Value.str (Str.ofString "pressed") 250) (Value.ref 59), DictEntry.mk (PyData.keyHash P (Str.ofString "LedgerError")) (Value.str (Str.ofString "LedgerError") 292) (Value.ref 85), DictEntry.mk (PyData.keyHash P (Str.ofString "RunFault")) (Value.str (Str.ofString "RunFault") 308) (Value.ref 98), DictEntry.mk (PyData.keyHash P (Str.ofString "SizeFault")) (Value.str (Str.ofString "SizeFault") 324) (Value.ref 110), DictEntry.mk (PyData.keyHash P (Str.ofString "StepFault")) (Value.str (Str.ofString "StepFault") 340) (Value.ref 122), DictEntry.mk (PyData.keyHash P (Str.ofString "MOST_PLACES")) (Value.str (Str.ofString "MOST_PLACES") 344) (Value.int 30 343), DictEntry.mk (PyData.keyHash P (Str.ofString "MOST_POWER")) (Value.str (Str.ofString "MOST_POWER") 346) (Value.int 99 345), DictEntry.mk (PyData.keyHash P (Str.ofString "MOST_FIGURES")) (Value.str (Str.ofString "MOST_FIGURES") 348) (Value.int 120 347), DictEntry.mk (PyData.keyHash P (Str.ofString "cut_quotient")) (Value.str (Str.ofString "cut_quotient") 356) (Value.ref 131), DictEntry.mk (PyData.keyHash P (Str.ofString "decimal")) (Value.str (Str.ofString "decimal") 365) (Value.ref 139), DictEntry.mk (PyData.keyHash P (Str.ofString "kept")) (Value.str (Str.ofString "kept") 373) (Value.ref 146), DictEntry.mk (PyData.keyHash P (Str.ofString "units_beside")) (Value.str (Str.ofString "units_beside") 382) (Value.ref 153), DictEntry.mk (PyData.keyHash P (Str.ofString "plus")) (Value.str (Str.ofString "plus") 393) (Value.ref 160), DictEntry.mk (PyData.keyHash P (Str.ofString "minus")) (Value.str (Str.ofString "minus") 404) (Value.ref 167), DictEntry.mk (PyData.keyHash P (Str.ofString "times")) (Value.str (Str.ofString "times") 412) (Value.ref 174), DictEntry.mk (PyData.keyHash P (Str.ofString "negated")) (Value.str (Str.ofString "negated") 419) (Value.ref 181), DictEntry.mk (PyData.keyHash P (Str.ofString "quotient")) (Value.str (Str.ofString "quotient") 428) (Value.ref 189), DictEntry.mk (PyData.keyHash P (Str.ofString "power")) (Value.str (Str.ofString "power") 438) (Value.ref 196), DictEntry.mk (PyData.keyHash P (Str.ofString "units_at")) (Value.str (Str.ofString "units_at") 449) (Value.ref 203), DictEntry.mk (PyData.keyHash P (Str.ofString "is_whole")) (Value.str (Str.ofString "is_whole") 456) (Value.ref 210), DictEntry.mk (PyData.keyHash P (Str.ofString "whole_of")) (Value.str (Str.ofString "whole_of") 463) (Value.ref 217), DictEntry.mk (PyData.keyHash P (Str.ofString "fits")) (Value.str (Str.ofString "fits") 471) (Value.ref 224), DictEntry.mk (PyData.keyHash P (Str.ofString "MOST_FRAMES")) (Value.str (Str.ofString "MOST_FRAMES") 475) (Value.int 20 474), DictEntry.mk (PyData.keyHash P (Str.ofString "NO_LABEL")) (Value.str (Str.ofString "NO_LABEL") 478) (Value.int (-1) 477), DictEntry.mk (PyData.keyHash P (Str.ofString "Frame")) (Value.str (Str.ofString "Frame") 510) (Value.ref 241), DictEntry.mk (PyData.keyHash P (Str.ofString "Machine")) (Value.str (Str.ofString "Machine") 554) (Value.ref 269), DictEntry.mk (PyData.keyHash P (Str.ofString "calculated")) (Value.str (Str.ofString "calculated") 563) (Value.ref 280), DictEntry.mk (PyData.keyHash P (Str.ofString "worth_by")) (Value.str (Str.ofString "worth_by") 572) (Value.ref 287), DictEntry.mk (PyData.keyHash P (Str.ofString "do_reckon")) (Value.str (Str.ofString "do_reckon") 580) (Value.ref 294), DictEntry.mk (PyData.keyHash P (Str.ofString "do_put")) (Value.str (Str.ofString "do_put") 588) (Value.ref 301), DictEntry.mk (PyData.keyHash P (Str.ofString "do_deed")) (Value.str (Str.ofString "do_deed") 596) (Value.ref 308), DictEntry.mk (PyData.keyHash P (Str.ofString "do_key")) (Value.str (Str.ofString "do_key") 604) (Value.ref 315), DictEntry.mk (PyData.keyHash P (Str.ofString "do_test")) (Value.str (Str.ofString "do_test") 612) (Value.ref 322), DictEntry.mk (PyData.keyHash P (Str.ofString "do_jump")) (Value.str (Str.ofString "do_jump") 620) (Value.ref 329), DictEntry.mk (PyData.keyHash P (Str.ofString "do_choose")) (Value.str (Str.ofString "do_choose") 629) (Value.ref 336), DictEntry.mk (PyData.keyHash P (Str.ofString "begin_frame")) (Value.str (Str.ofString "begin_frame") 637) (Value.ref 343), DictEntry.mk (PyData.keyHash P (Str.ofString "leave_frame")) (Value.str (Str.ofString "leave_frame") 645) (Value.ref 350), DictEntry.mk (PyData.keyHash P (Str.ofString "do_count")) (Value.str (Str.ofString "do_count") 653) (Value.ref 357), DictEntry.mk (PyData.keyHash P (Str.ofString "do_less")) (Value.str (Str.ofString "do_less") 662) (Value.ref 364), DictEntry.mk (PyData.keyHash P (Str.ofString "do_stop")) (Value.str (Str.ofString "do_stop") 670) (Value.ref 371), DictEntry.mk (PyData.keyHash P (Str.ofString "op_table")) (Value.str (Str.ofString "op_table") 676) (Value.ref 378), DictEntry.mk (PyData.keyHash P (Str.ofString "run_code")) (Value.str (Str.ofString "run_code") 689) (Value.ref 385), DictEntry.mk (PyData.keyHash P (Str.ofString "Deeds")) (Value.str (Str.ofString "Deeds") 726) (Value.ref 402), DictEntry.mk (PyData.keyHash P (Str.ofString "_law_draw")) (Value.str (Str.ofString "_law_draw") 739) (Value.ref 413), DictEntry.mk (PyData.keyHash P (Str.ofString "_law_place")) (Value.str (Str.ofString "_law_place") 745) (Value.ref 418), DictEntry.mk (PyData.keyHash P (Str.ofString "_law_run")) (Value.str (Str.ofString "_law_run") 757) (Value.ref 425), DictEntry.mk (PyData.keyHash P (Str.ofString "_law_runs_alike")) (Value.str (Str.ofString "_law_runs_alike") 775) (Value.ref 432), DictEntry.mk (PyData.keyHash P (Str.ofString "law")) (Value.str (Str.ofString "law") 781) (Value.ref 437)] 61) #[]) (BT.node (boot_o_7 P) (BT.node (Obj.mk (Value.type "tuple") Option.none (Data.seq #[] 0) #[]) (BT.node (Obj.mk (Value.type "tuple") Option.none (Data.seq #[Value.str (Str.ofString "self") 216] 0) #[]) (BT.node (Obj.mk (Value.type "tuple") Option.none (Data.seq #[] 0) #[]) (BT.node (Obj.mk (Value.type "tuple") Option.none (Data.seq #[Value.str (Str.ofString "top") 352, Value.str (Str.ofString "bottom") 353] 0) #[]) (BT.node (Obj.mk (Value.type "tuple") Option.none (Data.seq #[Value.str (Str.ofString "self") 526, Value.str (Str.ofString "code") 527, Value.str (Str.ofString "deeds") 528] 0) #[]) BT.nil BT.nil) (BT.node (Obj.mk Value.none Option.none (Data.func (FuncData.mk (Str.ofString "run_code") (Str.ofString "run_code") aP56 (FuncBody.stmts aB56) aS56 0 [] Value.none Value.none Value.none Value.none Option.none Value.none Value.none 0)) #[]) BT.nil BT.nil)) (BT.node (Obj.mk Value.none Option.none (Data.fields #[]) #[]) (BT.node (Obj.mk (Value.type "tuple") Option.none (Data.seq #[] 0) #[]) BT.nil BT.nil) BT.nil)) (BT.node (Obj.mk (Value.type "frame") Option.none Data.plain #[Option.some (Value.ref 94), Option.some (Value.ref 3), Option.some (Value.ref 91), Option.none, Option.some (Value.str (Str.ofString "ledgerspeak.errors") 251), Option.none, Option.some (Value.ref 0)]) (BT.node (Obj.mk (Value.type "code") Option.none (Data.fields #[Value.str (Str.ofString "plus") 383, Value.str (Str.ofString "plus") 384, Value.str (Str.ofString "/claim/cut.py") 385, Value.int 81 0, Value.int 2 0, Value.int 0 0, Value.int 0 0, Value.int 3 0, Value.ref 154, Value.bool Bool.true, Value.int 181 0, Value.ref 155, Value.none, Value.ref 156, Value.ref 157, Value.ref 158, Value.int 391 0, Value.int 81 0, Value.str (Str.ofString "/claim/cut.py") 392]) #[]) (BT.node (Obj.mk (Value.type "function") Option.none (Data.func (FuncData.mk (Str.ofString "worth_by") (Str.ofString "worth_by") aP42 (FuncBody.stmts aB42) aS42 3 [] Value.none Value.none Value.none (Value.str (Str.ofString "ledgerspeak.machine") 472) Option.none (Value.ref 286) Value.none 0)) #[]) BT.nil BT.nil) (BT.node (Obj.mk Value.none Option.none (Data.fields #[]) #[]) BT.nil BT.nil)) (BT.node (Obj.mk (Value.type "code") Option.none (Data.fields #[Value.str (Str.ofString "fits") 464, Value.str (Str.ofString "fits") 465, Value.str (Str.ofString "/claim/cut.py") 466, Value.int 116 0, Value.int 2 0, Value.int 0 0, Value.int 0 0, Value.int 3 0, Value.ref 218, Value.bool Bool.true, Value.int 181 0, Value.ref 219, Value.none, Value.ref 220, Value.ref 221, Value.ref 222, Value.int 469 0, Value.int 116 0, Value.str (Str.ofString "/claim/cut.py") 470]) #[]) (BT.node (Obj.mk (Value.type "tuple") Option.none (Data.seq #[] 0) #[]) BT.nil BT.nil) BT.nil))) (BT.node (Obj.mk Value.none Option.none (Data.func (FuncData.mk (Str.ofString "labels_of") (Str.ofString "labels_of") aP0 (FuncBody.stmts aB0) aS0 0 [] Value.none Value.none Value.none Value.none Option.none Value.none Value.none 0)) #[]) (BT.node (Obj.mk (Value.type "tuple") Option.none (Data.seq #[] 0) #[]) (BT.node (Obj.mk (Value.type "tuple") Option.none (Data.seq #[] 0) #[]) (BT.node (Obj.mk (Value.type "getset_descriptor") Option.none (Data.fields #[Value.str (Str.ofString "__weakref__") 550, Value.ref 269, Value.builtin "ExceptionGroup.__weakref__", Value.none]) #[]) BT.nil BT.nil) (BT.node (Obj.mk (Value.type "function") Option.none (Data.func (FuncData.mk (Str.ofString "__init__") (Str.ofString "Deeds.__init__") aP57 (FuncBody.stmts aB57) aS57 3 [] Value.none Value.none Value.none (Value.str (Str.ofString "ledgerspeak.runner") 690) Option.none (Value.ref 398) Value.none 0)) #[]) BT.nil BT.nil)) (BT.node (Obj.mk (Value.type "tuple") Option.none (Data.seq #[] 0) #[]) (BT.node (Obj.mk (Value.type "code") Option.none (Data.fields #[Value.str (Str.ofString "do_choose") 621, Value.str (Str.ofString "do_choose") 622, Value.str (Str.ofString "/claim/cut.py") 623, Value.int 174 0, Value.int 2 0, Value.int 0 0, Value.int 0 0, Value.int 3 0, Value.ref 330, Value.bool Bool.true, Value.int 181 0, Value.ref 331, Value.none, Value.ref 332, Value.ref 333, Value.ref 334, Value.int 627 0, Value.int 174 0, Value.str (Str.ofString "/claim/cut.py") 628]) #[]) BT.nil BT.nil) BT.nil)) (BT.node (Obj.mk (Value.type "super") Option.none (Data.fields #[Value.ref 110, Value.ref 110, Value.ref 110]) #[]) (BT.node (Obj.mk (Value.type "tuple") Option.none (Data.seq #[] 0) #[]) (BT.node (Obj.mk Value.none Option.none (Data.fields #[]) #[]) BT.nil BT.nil) (BT.node (Obj.mk (Value.type "code") Option.none (Data.fields #[Value.str (Str.ofString "_law_runs_alike") 758, Value.str (Str.ofString "_law_runs_alike") 759, Value.str (Str.ofString "/claim/cut.py") 760, Value.int 243 0, Value.int 2 0, Value.int 0 0, Value.int 0 0, Value.int 3 0, Value.ref 426, Value.bool Bool.true, Value.int 181 0, Value.ref 427, Value.none, Value.ref 428, Value.ref 429, Value.ref 430, Value.int 773 0, Value.int 243 0, Value.str (Str.ofString "/claim/cut.py") 774]) #[]) BT.nil BT.nil)) (BT.node (Obj.mk (Value.type "tuple") Option.none (Data.seq #[Value.str (Str.ofString "behind") 500, Value.str (Str.ofString "last") 501, Value.str (Str.ofString "slots") 502] 0) #[]) (BT.node (Obj.mk (Value.type "tuple") Option.none (Data.seq #[Value.str (Str.ofString "machine") 666, Value.str (Str.ofString "op") 667] 0) #[]) BT.nil BT.nil) BT.nil)))) (BT.node (Obj.mk Value.none Option.none (Data.fields #[]) #[]) (BT.node (Obj.mk (Value.type "getset_descriptor") Option.none (Data.fields #[Value.str (Str.ofString "__dict__") 223, Value.ref 38, Value.builtin "function.__dict__", Value.builtin "function.__dict__#set"]) #[]) (BT.node (Obj.mk (Value.type "tuple") Option.none (Data.seq #[Value.str (Str.ofString "self") 270, Value.str (Str.ofString "what") 271, Value.str (Str.ofString "at") 272] 0) #[]) (BT.node (Obj.mk (Value.type "tuple") Option.none (Data.seq #[Value.str (Str.ofString "units") 361, Value.str (Str.ofString "scale") 362] 0) #[]) (BT.node (Obj.mk (Value.type "tuple") Option.none (Data.seq #[] 0) #[]) BT.nil BT.nil) (BT.node (Obj.mk (Value.type "code") Option.none (Data.fields #[Value.str (Str.ofString "Deeds") 694, Value.str (Str.ofString "Deeds") 695, Value.str (Str.ofString "/claim/cut.py") 696, Value.int 213 0, Value.int 0 0, Value.int 0 0, Value.int 0 0, Value.int 0 0, Value.ref 389, Value.bool Bool.false, Value.int 181 0, Value.ref 390, Value.none, Value.none, Value.none, Value.none, Value.int 697 0, Value.int 213 0, Value.str (Str.ofString "/claim/cut.py") 698]) #[]) BT.nil BT.nil)) (BT.node (Obj.mk (Value.type "tuple") Option.none (Data.seq #[Value.str (Str.ofString "a") 442, Value.str (Str.ofString "scale") 443, Value.str (Str.ofString "is_rounded") 444, Value.str (Str.ofString "size") 445, Value.str (Str.ofString "half") 446] 0) #[]) (BT.node (Obj.mk Value.none Option.none (Data.func (FuncData.mk (Str.ofString "do_jump") (Str.ofString "do_jump") aP58 (FuncBody.stmts aB58) aS44 0 [] Value.none Value.none Value.none Value.none Option.none Value.none Value.none 0)) #[]) BT.nil BT.nil) BT.nil)) (BT.node (Obj.mk (Value.type "dict") Option.none (Data.dict #[DictEntry.mk (PyData.keyHash P (Str.ofString "__module__")) (Value.str (Str.ofString "__module__") 316) (Value.str (Str.ofString "ledgerspeak.errors") 251), DictEntry.mk (PyData.keyHash P (Str.ofString "__qualname__")) (Value.str (Str.ofString "__qualname__") 318) (Value.str (Str.ofString "SizeFault") 317), DictEntry.mk (PyData.keyHash P (Str.ofString "__firstlineno__")) (Value.str (Str.ofString "__firstlineno__") 320) (Value.int 52 319), DictEntry.mk (PyData.keyHash P (Str.ofString "__static_attributes__")) (Value.str (Str.ofString "__static_attributes__") 321) (Value.ref 108)] 4) #[]) (BT.node (Obj.mk (Value.type "function") Option.none (Data.func (FuncData.mk (Str.ofString "minus") (Str.ofString "minus") aP14 (FuncBody.stmts aB14) aS14 3 [] Value.none Value.none Value.none (Value.str (Str.ofString "ledgerspeak.decimals") 341) Option.none (Value.ref 166) Value.none 0)) #[]) (BT.node (Obj.mk (Value.type "tuple") Option.none (Data.seq #[] 0) #[]) BT.nil BT.nil) (BT.node (Obj.mk Value.none Option.none (Data.func (FuncData.mk (Str.ofString "_law_run") (Str.ofString "_law_run") aP59 (FuncBody.stmts aB59) aS59 0 [] Value.none Value.none Value.none Value.none Option.none Value.none Value.none 0)) #[]) BT.nil BT.nil)) (BT.node (Obj.mk (Value.type "frame") Option.none Data.plain #[Option.some (Value.ref 230), Option.some (Value.ref 3), Option.some (Value.ref 227), Option.none, Option.some (Value.str (Str.ofString "ledgerspeak.machine") 472), Option.none, Option.some (Value.ref 0)]) (BT.node (Obj.mk Value.none Option.none (Data.fields #[]) #[]) BT.nil BT.nil) BT.nil))) (BT.node (Obj.mk (Value.type "tuple") Option.none (Data.seq #[] 0) #[]) (BT.node (Obj.mk (Value.type "super") Option.none (Data.fields #[Value.ref 85, Value.ref 85, Value.ref 85]) #[]) (BT.node (Obj.mk Value.none Option.none (Data.func (FuncData.mk (Str.ofString "units_beside") (Str.ofString "units_beside") aP15 (FuncBody.stmts aB15) aS15 0 [] Value.none Value.none Value.none Value.none Option.none Value.none Value.none 0)) #[]) (BT.node (Obj.mk (Value.type "code") Option.none (Data.fields #[Value.str (Str.ofString "calculated") 555, Value.str (Str.ofString "calculated") 556, Value.str (Str.ofString "/claim/cut.py") 557, Value.int 141 0, Value.int 3 0, Value.int 0 0, Value.int 0 0, Value.int 3 0, Value.ref 274, Value.bool Bool.true, Value.int 181 0, Value.ref 275, Value.none, Value.ref 276, Value.ref 277, Value.ref 278, Value.int 561 0, Value.int 141 0, Value.str (Str.ofString "/claim/cut.py") 562]) #[]) BT.nil BT.nil) (BT.node (Obj.mk (Value.type "tuple") Option.none (Data.seq #[] 0) #[]) BT.nil BT.nil)) (BT.node (Obj.mk Value.none Option.none (Data.func (FuncData.mk (Str.ofString "whole_of") (Str.ofString "whole_of") aP16 (FuncBody.stmts aB16) aS16 0 [] Value.none Value.none Value.none Value.none Option.none Value.none Value.none 0)) #[]) (BT.node (Obj.mk (Value.type "function") Option.none (Data.func (FuncData.mk (Str.ofString "begin_frame") (Str.ofString "begin_frame") aP60 (FuncBody.stmts aB60) aS60 3 [] Value.none Value.none Value.none (Value.str (Str.ofString "ledgerspeak.machine") 472) Option.none (Value.ref 342) Value.none 0)) #[]) BT.nil BT.nil) BT.nil)) (BT.node (Obj.mk (Value.type "frame") Option.none Data.plain #[Option.some (Value.ref 118), Option.some (Value.ref 3), Option.some (Value.ref 115), Option.none, Option.some (Value.str (Str.ofString "ledgerspeak.errors") 251), Option.none, Option.some (Value.ref 0)]) (BT.node (Obj.mk (Value.type "tuple") Option.none (Data.seq #[] 0) #[]) (BT.node (Obj.mk (Value.type "tuple") Option.none (Data.seq #[Value.str (Str.ofString "machine") 600, Value.str (Str.ofString "op") 601] 0) #[]) BT.nil BT.nil) BT.nil) (BT.node (Obj.mk (Value.type "builtin_function_or_method") Option.none (Data.fields #[Value.builtin "type.__prepare__", Value.type "type"]) #[]) (BT.node (Obj.mk (Value.type "tuple") Option.none (Data.seq #[] 0) #[]) BT.nil BT.nil) BT.nil))))) (BT.node (Obj.mk (Value.type "tuple") Option.none (Data.seq #[] 0) #[]) (BT.node (Obj.mk Value.none Option.none (Data.fields #[Value.int 5 0, Value.int 4 0, Value.ref 27, Value.int 9 0, Value.int 4 0, Value.ref 34]) #[]) (BT.node (Obj.mk (Value.type "function") Option.none (Data.func (FuncData.mk (Str.ofString "told") (Str.ofString "Code.told") aP1 (FuncBody.stmts aB1) aS1 3 [] Value.none Value.none Value.none (Value.str (Str.ofString "ledgerspeak.codes") 187) Option.none (Value.ref 34) Value.none 0)) #[]) (BT.node (Obj.mk (Value.type "tuple") Option.none (Data.seq #[Value.int 0 265, Value.int 0 266] 0) #[]) (BT.node (Obj.mk (Value.type "function") Option.none (Data.func (FuncData.mk (Str.ofString "cut_quotient") (Str.ofString "cut_quotient") aP17 (FuncBody.stmts aB17) aS17 3 [] Value.none Value.none Value.none (Value.str (Str.ofString "ledgerspeak.decimals") 341) Option.none (Value.ref 130) Value.none 0)) #[]) (BT.node (Obj.mk (Value.type "function") Option.none (Data.func (FuncData.mk (Str.ofString "__init__") (Str.ofString "Machine.__init__") aP43 (FuncBody.stmts aB43) aS43 3 [] Value.none Value.none Value.none (Value.str (Str.ofString "ledgerspeak.machine") 472) Option.none (Value.ref 258) Value.none 0)) #[]) BT.nil BT.nil) (BT.node (Obj.mk (Value.type "builtin_function_or_method") Option.none (Data.fields #[Value.builtin "type.__prepare__", Value.type "type"]) #[]) BT.nil BT.nil)) (BT.node (Obj.mk (Value.type "code") Option.none (Data.fields #[Value.str (Str.ofString "power") 429, Value.str (Str.ofString "power") 430, Value.str (Str.ofString "/claim/cut.py") 431, Value.int 95 0, Value.int 2 0, Value.int 0 0, Value.int 0 0, Value.int 3 0, Value.ref 190, Value.bool Bool.true, Value.int 181 0, Value.ref 191, Value.none, Value.ref 192, Value.ref 193, Value.ref 194, Value.int 436 0, Value.int 95 0, Value.str (Str.ofString "/claim/cut.py") 437]) #[]) (BT.node (Obj.mk (Value.type "tuple") Option.none (Data.seq #[] 0) #[]) BT.nil BT.nil) BT.nil)) (BT.node (Obj.mk (Value.type "super") Option.none (Data.fields #[Value.ref 98, Value.ref 98, Value.ref 98]) #[]) (BT.node (Obj.mk (Value.type "tuple") Option.none (Data.seq #[Value.str (Str.ofString "a") 397, Value.str (Str.ofString "b") 398, Value.str (Str.ofString "first") 399, Value.str (Str.ofString "second") 400, Value.str (Str.ofString "scale") 401] 0) #[]) (BT.node (Obj.mk (Value.type "tuple") Option.none (Data.seq #[] 0) #[]) BT.nil BT.nil) (BT.node (Obj.mk (Value.type "tuple") Option.none (Data.seq #[] 0) #[]) BT.nil BT.nil)) (BT.node (Obj.mk (Value.type "dict") Option.none (Data.dict #[DictEntry.mk (PyData.keyHash P (Str.ofString "__module__")) (Value.str (Str.ofString "__module__") 486) (Value.str (Str.ofString "ledgerspeak.machine") 472), DictEntry.mk (PyData.keyHash P (Str.ofString "__qualname__")) (Value.str (Str.ofString "__qualname__") 488) (Value.str (Str.ofString "Frame") 487), DictEntry.mk (PyData.keyHash P (Str.ofString "__firstlineno__")) (Value.str (Str.ofString "__firstlineno__") 490) (Value.int 121 489), DictEntry.mk (PyData.keyHash P (Str.ofString "__init__")) (Value.str (Str.ofString "__init__") 499) (Value.ref 238), DictEntry.mk (PyData.keyHash P (Str.ofString "__static_attributes__")) (Value.str (Str.ofString "__static_attributes__") 503) (Value.ref 239)] 5) #[]) (BT.node (Obj.mk Value.none Option.none (Data.func (FuncData.mk (Str.ofString "do_count") (Str.ofString "do_count") aP61 (FuncBody.stmts aB61) aS61 0 [] Value.none Value.none Value.none Value.none Option.none Value.none Value.none 0)) #[]) BT.nil BT.nil) BT.nil))) (BT.node (Obj.mk Value.none Option.none (Data.fields #[]) #[]) (BT.node (Obj.mk (Value.type "tuple") Option.none (Data.seq #[Value.str (Str.ofString "at") 283, Value.str (Str.ofString "what") 284] 0) #[]) (BT.node (Obj.mk (Value.type "tuple") Option.none (Data.seq #[] 0) #[]) (BT.node (Obj.mk Value.none Option.none (Data.fields #[]) #[]) BT.nil BT.nil) (BT.node (Obj.mk (Value.type "getset_descriptor") Option.none (Data.fields #[Value.str (Str.ofString "__dict__") 720, Value.ref 402, Value.builtin "function.__dict__", Value.builtin "function.__dict__#set"]) #[]) BT.nil BT.nil)) (BT.node (Obj.mk (Value.type "tuple") Option.none (Data.seq #[] 0) #[]) (BT.node (Obj.mk (Value.type "tuple") Option.none (Data.seq #[Value.str (Str.ofString "machine") 633, Value.str (Str.ofString "op") 634] 0) #[]) BT.nil BT.nil) BT.nil)) (BT.node (Obj.mk (Value.type "dict") Option.none (Data.dict #[DictEntry.mk (PyData.keyHash P (Str.ofString "__module__")) (Value.str (Str.ofString "__module__") 332) (Value.str (Str.ofString "ledgerspeak.errors") 251), DictEntry.mk (PyData.keyHash P (Str.ofString "__qualname__")) (Value.str (Str.ofString "__qualname__") 334) (Value.str (Str.ofString "StepFault") 333), DictEntry.mk (PyData.keyHash P (Str.ofString "__firstlineno__")) (Value.str (Str.ofString "__firstlineno__") 336) (Value.int 54 335), DictEntry.mk (PyData.keyHash P (Str.ofString "__static_attributes__")) (Value.str (Str.ofString "__static_attributes__") 337) (Value.ref 120)] 4) #[]) (BT.node (Obj.mk Value.none Option.none (Data.func (FuncData.mk (Str.ofString "negated") (Str.ofString "negated") aP18 (FuncBody.stmts aB18) aS18 0 [] Value.none Value.none Value.none Value.none Option.none Value.none Value.none 0)) #[]) (BT.node (Obj.mk (Value.type "code") Option.none (Data.fields #[Value.str (Str.ofString "do_deed") 589, Value.str (Str.ofString "do_deed") 590, Value.str (Str.ofString "/claim/cut.py") 591, Value.int 164 0, Value.int 2 0, Value.int 0 0, Value.int 0 0, Value.int 3 0, Value.ref 302, Value.bool Bool.true, Value.int 181 0, Value.ref 303, Value.none, Value.ref 304, Value.ref 305, Value.ref 306, Value.int 594 0, Value.int 164 0, Value.str (Str.ofString "/claim/cut.py") 595]) #[]) BT.nil BT.nil) (BT.node (Obj.mk Value.none Option.none (Data.func (FuncData.mk (Str.ofString "law") (Str.ofString "law") aP62 (FuncBody.stmts aB62) aS62 0 [] Value.none Value.none Value.none Value.none Option.none Value.none Value.none 0)) #[]) BT.nil BT.nil)) (BT.node (Obj.mk (Value.type "getset_descriptor") Option.none (Data.fields #[Value.str (Str.ofString "__weakref__") 506, Value.ref 241, Value.builtin "ExceptionGroup.__weakref__", Value.none]) #[]) (BT.node (Obj.mk (Value.type "function") Option.none (Data.func (FuncData.mk (Str.ofString "do_stop") (Str.ofString "do_stop") aP63 (FuncBody.stmts aB63) aS44 3 [] Value.none Value.none Value.none (Value.str (Str.ofString "ledgerspeak.machine") 472) Option.none (Value.ref 370) Value.none 0)) #[]) BT.nil BT.nil) BT.nil)))) (BT.node (Obj.mk (Value.type "code") Option.none (Data.fields #[Value.str (Str.ofString "__init__") 204, Value.str (Str.ofString "Code.__init__") 205, Value.str (Str.ofString "/claim/cut.py") 206, Value.int 5 0, Value.int 3 0, Value.int 0 0, Value.int 0 0, Value.int 3 0, Value.ref 22, Value.bool Bool.true, Value.int 181 0, Value.ref 23, Value.none, Value.ref 24, Value.ref 25, Value.ref 26, Value.int 210 0, Value.int 5 0, Value.str (Str.ofString "/claim/cut.py") 211]) #[]) (BT.node (Obj.mk (Value.type "tuple") Option.none (Data.seq #[] 0) #[]) (BT.node (Obj.mk (Value.type "function") Option.none (Data.func (FuncData.mk (Str.ofString "__init__") (Str.ofString "LedgerError.__init__") aP2 (FuncBody.stmts aB2) aS2 3 [] (Value.ref 68) Value.none Value.none (Value.str (Str.ofString "ledgerspeak.errors") 251) Option.none (Value.ref 74) Value.none 0)) #[]) (BT.node (Obj.mk (Value.type "function") Option.none (Data.func (FuncData.mk (Str.ofString "decimal") (Str.ofString "decimal") aP19 (FuncBody.stmts aB19) aS19 3 [] (Value.ref 132) Value.none Value.none (Value.str (Str.ofString "ledgerspeak.decimals") 341) Option.none (Value.ref 138) Value.none 0)) #[]) (BT.node (Obj.mk (Value.type "tuple") Option.none (Data.seq #[Value.str (Str.ofString "code") 540, Value.str (Str.ofString "deeds") 541, Value.str (Str.ofString "frames") 542, Value.str (Str.ofString "key") 543, Value.str (Str.ofString "place") 544, Value.str (Str.ofString "stack") 545, Value.str (Str.ofString "word") 546] 0) #[]) BT.nil BT.nil) (BT.node (Obj.mk (Value.type "tuple") Option.none (Data.seq #[Value.str (Str.ofString "self") 707, Value.str (Str.ofString "do") 708, Value.str (Str.ofString "test") 709, Value.str (Str.ofString "number") 710, Value.str (Str.ofString "put") 711] 0) #[]) BT.nil BT.nil)) (BT.node (Obj.mk (Value.type "function") Option.none (Data.func (FuncData.mk (Str.ofString "units_at") (Str.ofString "units_at") aP20 (FuncBody.stmts aB20) aS20 3 [] Value.none Value.none Value.none (Value.str (Str.ofString "ledgerspeak.decimals") 341) Option.none (Value.ref 202) Value.none 0)) #[]) (BT.node (Obj.mk Value.none Option.none (Data.fields #[]) #[]) BT.nil BT.nil) BT.nil)) (BT.node (Obj.mk (Value.type "frame") Option.none Data.plain #[Option.some (Value.ref 106), Option.some (Value.ref 3), Option.some (Value.ref 103), Option.none, Option.some (Value.str (Str.ofString "ledgerspeak.errors") 251), Option.none, Option.some (Value.ref 0)]) (BT.node (Obj.mk (Value.type "tuple") Option.none (Data.seq #[] 0) #[]) (BT.node (Obj.mk Value.none Option.none (Data.func (FuncData.mk (Str.ofString "do_put") (Str.ofString "do_put") aP44 (FuncBody.stmts aB44) aS44 0 [] Value.none Value.none Value.none Value.none Option.none Value.none Value.none 0)) #[]) BT.nil BT.nil) (BT.node (Obj.mk Value.none Option.none (Data.fields #[]) #[]) BT.nil BT.nil)) (BT.node (Obj.mk (Value.type "tuple") Option.none (Data.seq #[] 0) #[]) (BT.node (Obj.mk (Value.type "code") Option.none (Data.fields #[Value.str (Str.ofString "do_less") 654, Value.str (Str.ofString "do_less") 655, Value.str (Str.ofString "/claim/cut.py") 656, Value.int 188 0, Value.int 2 0, Value.int 0 0, Value.int 0 0, Value.int 3 0, Value.ref 358, Value.bool Bool.true, Value.int 181 0, Value.ref 359, Value.none, Value.ref 360, Value.ref 361, Value.ref 362, Value.int 660 0, Value.int 188 0, Value.str (Str.ofString "/claim/cut.py") 661]) #[]) BT.nil BT.nil) BT.nil))) (BT.node (Obj.mk (Value.type "function") Option.none (Data.func (FuncData.mk (Str.ofString "pressed") (Str.ofString "pressed") aP3 (FuncBody.stmts aB3) aS3 3 [] Value.none Value.none Value.none (Value.str (Str.ofString "ledgerspeak.peephole") 243) Option.none (Value.ref 58) Value.none 0)) #[]) (BT.node (Obj.mk (Value.type "dict") Option.none (Data.dict #[DictEntry.mk (PyData.keyHash P (Str.ofString "__module__")) (Value.str (Str.ofString "__module__") 300) (Value.str (Str.ofString "ledgerspeak.errors") 251), DictEntry.mk (PyData.keyHash P (Str.ofString "__qualname__")) (Value.str (Str.ofString "__qualname__") 302) (Value.str (Str.ofString "RunFault") 301), DictEntry.mk (PyData.keyHash P (Str.ofString "__firstlineno__")) (Value.str (Str.ofString "__firstlineno__") 304) (Value.int 50 303), DictEntry.mk (PyData.keyHash P (Str.ofString "__static_attributes__")) (Value.str (Str.ofString "__static_attributes__") 305) (Value.ref 96)] 4) #[]) (BT.node (Obj.mk Value.none Option.none (Data.fields #[]) #[]) (BT.node (Obj.mk (Value.type "tuple") Option.none (Data.seq #[Value.str (Str.ofString "machine") 567, Value.str (Str.ofString "op") 568, Value.str (Str.ofString "last") 569] 0) #[]) BT.nil BT.nil) (BT.node (Obj.mk Value.none Option.none (Data.func (FuncData.mk (Str.ofString "_law_draw") (Str.ofString "_law_draw") aP64 (FuncBody.stmts aB64) aS64 0 [] Value.none Value.none Value.none Value.none Option.none Value.none Value.none 0)) #[]) BT.nil BT.nil)) (BT.node (Obj.mk Value.none Option.none (Data.fields #[]) #[]) (BT.node (Obj.mk (Value.type "tuple") Option.none (Data.seq #[] 0) #[]) BT.nil BT.nil) BT.nil)) (BT.node (Obj.mk (Value.type "super") Option.none (Data.fields #[Value.ref 122, Value.ref 122, Value.ref 122]) #[]) (BT.node (Obj.mk Value.none Option.none (Data.func (FuncData.mk (Str.ofString "quotient") (Str.ofString "quotient") aP21 (FuncBody.stmts aB21) aS21 0 [] Value.none Value.none Value.none Value.none Option.none Value.none Value.none 0)) #[]) (BT.node (Obj.mk (Value.type "function") Option.none (Data.func (FuncData.mk (Str.ofString "do_key") (Str.ofString "do_key") aP65 (FuncBody.stmts aB65) aS44 3 [] Value.none Value.none Value.none (Value.str (Str.ofString "ledgerspeak.machine") 472) Option.none (Value.ref 314) Value.none 0)) #[]) BT.nil BT.nil) BT.nil) (BT.node (Obj.mk (Value.type "code") Option.none (Data.fields #[Value.str (Str.ofString "Machine") 513, Value.str (Str.ofString "Machine") 514, Value.str (Str.ofString "/claim/cut.py") 515, Value.int 127 0, Value.int 0 0, Value.int 0 0, Value.int 0 0, Value.int 0 0, Value.ref 249, Value.bool Bool.false, Value.int 181 0, Value.ref 250, Value.none, Value.none, Value.none, Value.none, Value.int 516 0, Value.int 127 0, Value.str (Str.ofString "/claim/cut.py") 517]) #[]) (BT.node (Obj.mk (Value.type "tuple") Option.none (Data.seq #[] 0) #[]) BT.nil BT.nil) BT.nil)))))) (BT.node (boot_o_5 P) (BT.node (boot_o_9 P) (BT.node (Obj.mk (Value.type "dict") Option.none (Data.dict #[DictEntry.mk (PyData.keyHash P (Str.ofString "__module__")) (Value.str (Str.ofString "__module__") 199) (Value.str (Str.ofString "ledgerspeak.codes") 187), DictEntry.mk (PyData.keyHash P (Str.ofString "__qualname__")) (Value.str (Str.ofString "__qualname__") 201) (Value.str (Str.ofString "Code") 200), DictEntry.mk (PyData.keyHash P (Str.ofString "__firstlineno__")) (Value.str (Str.ofString "__firstlineno__") 203) (Value.int 3 202), DictEntry.mk (PyData.keyHash P (Str.ofString "__init__")) (Value.str (Str.ofString "__init__") 212) (Value.ref 28), DictEntry.mk (PyData.keyHash P (Str.ofString "told")) (Value.str (Str.ofString "told") 219) (Value.ref 35), DictEntry.mk (PyData.keyHash P (Str.ofString "__static_attributes__")) (Value.str (Str.ofString "__static_attributes__") 222) (Value.ref 36)] 6) #[]) (BT.node (Obj.mk Value.none Option.none (Data.func (FuncData.mk (Str.ofString "told") (Str.ofString "Code.told") aP1 (FuncBody.stmts aB1) aS1 0 [] Value.none Value.none Value.none Value.none Option.none Value.none Value.none 0)) #[]) (BT.node (Obj.mk (Value.type "code") Option.none (Data.fields #[Value.str (Str.ofString "LedgerError") 255, Value.str (Str.ofString "LedgerError") 256, Value.str (Str.ofString "/claim/cut.py") 257, Value.int 41 0, Value.int 0 0, Value.int 0 0, Value.int 0 0, Value.int 0 0, Value.ref 63, Value.bool Bool.false, Value.int 181 0, Value.ref 64, Value.none, Value.none, Value.none, Value.none, Value.int 258 0, Value.int 41 0, Value.str (Str.ofString "/claim/cut.py") 259]) #[]) (BT.node (Obj.mk Value.none Option.none (Data.func (FuncData.mk (Str.ofString "cut_quotient") (Str.ofString "cut_quotient") aP17 (FuncBody.stmts aB17) aS17 0 [] Value.none Value.none Value.none Value.none Option.none Value.none Value.none 0)) #[]) (BT.node (Obj.mk Value.none Option.none (Data.func (FuncData.mk (Str.ofString "__init__") (Str.ofString "Machine.__init__") aP43 (FuncBody.stmts aB43) aS43 0 [] Value.none Value.none Value.none Value.none Option.none Value.none Value.none 0)) #[]) BT.nil BT.nil) (BT.node (Obj.mk (Value.type "function") Option.none (Data.func (FuncData.mk (Str.ofString "run_code") (Str.ofString "run_code") aP56 (FuncBody.stmts aB56) aS56 3 [] Value.none Value.none Value.none (Value.str (Str.ofString "ledgerspeak.machine") 472) Option.none (Value.ref 384) Value.none 0)) #[]) BT.nil BT.nil)) (BT.node (Obj.mk (Value.type "tuple") Option.none (Data.seq #[] 0) #[]) (BT.node (Obj.mk (Value.type "code") Option.none (Data.fields #[Value.str (Str.ofString "do_test") 605, Value.str (Str.ofString "do_test") 606, Value.str (Str.ofString "/claim/cut.py") 607, Value.int 169 0, Value.int 2 0, Value.int 0 0, Value.int 0 0, Value.int 3 0, Value.ref 316, Value.bool Bool.true, Value.int 181 0, Value.ref 317, Value.none, Value.ref 318, Value.ref 319, Value.ref 320, Value.int 610 0, Value.int 169 0, Value.str (Str.ofString "/claim/cut.py") 611]) #[]) BT.nil BT.nil) BT.nil)) (BT.node (Obj.mk (Value.type "dict") Option.none (Data.dict #[DictEntry.mk (PyData.keyHash P (Str.ofString "__module__")) (Value.str (Str.ofString "__module__") 300) (Value.str (Str.ofString "ledgerspeak.errors") 251), DictEntry.mk (PyData.keyHash P (Str.ofString "__firstlineno__")) (Value.str (Str.ofString "__firstlineno__") 304) (Value.int 50 303), DictEntry.mk (PyData.keyHash P (Str.ofString "__static_attributes__")) (Value.str (Str.ofString "__static_attributes__") 305) (Value.ref 96), DictEntry.mk (PyData.keyHash P (Str.ofString "__doc__")) (Value.str (Str.ofString "__doc__") 306) Value.none] 2) #[]) (BT.node (Obj.mk (Value.type "tuple") Option.none (Data.seq #[] 0) #[]) (BT.node (Obj.mk Value.none Option.none (Data.fields #[]) #[]) BT.nil BT.nil) (BT.node (Obj.mk (Value.type "code") Option.none (Data.fields #[Value.str (Str.ofString "_law_place") 740, Value.str (Str.ofString "_law_place") 741, Value.str (Str.ofString "/claim/cut.py") 742, Value.int 228 0, Value.int 2 0, Value.int 0 0, Value.int 0 0, Value.int 3 0, Value.ref 414, Value.bool Bool.true, Value.int 181 0, Value.ref 415, Value.none, Value.none, Value.none, Value.ref 416, Value.int 743 0, Value.int 228 0, Value.str (Str.ofString "/claim/cut.py") 744]) #[]) BT.nil BT.nil)) (BT.node (Obj.mk (Value.type "tuple") Option.none (Data.seq #[] 0) #[]) (BT.node (Obj.mk (Value.type "tuple") Option.none (Data.seq #[Value.str (Str.ofString "machine") 649, Value.str (Str.ofString "op") 650] 0) #[]) BT.nil BT.nil) BT.nil))) (BT.node (Obj.mk (Value.type "function") Option.none (Data.func (FuncData.mk (Str.ofString "labels_of") (Str.ofString "labels_of") aP0 (FuncBody.stmts aB0) aS0 3 [] Value.none Value.none Value.none (Value.str (Str.ofString "ledgerspeak.codes") 187) Option.none (Value.ref 48) Value.none 0)) #[]) (BT.node (Obj.mk (Value.type "code") Option.none (Data.fields #[Value.str (Str.ofString "told") 276, Value.str (Str.ofString "LedgerError.told") 277, Value.str (Str.ofString "/claim/cut.py") 278, Value.int 48 0, Value.int 1 0, Value.int 0 0, Value.int 0 0, Value.int 3 0, Value.ref 76, Value.bool Bool.true, Value.int 181 0, Value.ref 77, Value.none, Value.ref 78, Value.ref 79, Value.ref 80, Value.int 280 0, Value.int 48 0, Value.str (Str.ofString "/claim/cut.py") 281]) #[]) (BT.node (Obj.mk (Value.type "code") Option.none (Data.fields #[Value.str (Str.ofString "kept") 366, Value.str (Str.ofString "kept") 367, Value.str (Str.ofString "/claim/cut.py") 368, Value.int 71 0, Value.int 2 0, Value.int 0 0, Value.int 0 0, Value.int 3 0, Value.ref 140, Value.bool Bool.true, Value.int 181 0, Value.ref 141, Value.none, Value.ref 142, Value.ref 143, Value.ref 144, Value.int 371 0, Value.int 71 0, Value.str (Str.ofString "/claim/cut.py") 372]) #[]) (BT.node (Obj.mk (Value.type "builtin_function_or_method") Option.none (Data.fields #[Value.builtin "object.__init_subclass__", Value.ref 269]) #[]) BT.nil BT.nil) (BT.node (Obj.mk (Value.type "dict") Option.none (Data.dict #[DictEntry.mk (PyData.keyHash P (Str.ofString "__module__")) (Value.str (Str.ofString "__module__") 699) (Value.str (Str.ofString "ledgerspeak.runner") 690), DictEntry.mk (PyData.keyHash P (Str.ofString "__firstlineno__")) (Value.str (Str.ofString "__firstlineno__") 703) (Value.int 213 702), DictEntry.mk (PyData.keyHash P (Str.ofString "__init__")) (Value.str (Str.ofString "__init__") 714) (Value.ref 399), DictEntry.mk (PyData.keyHash P (Str.ofString "__static_attributes__")) (Value.str (Str.ofString "__static_attributes__") 719) (Value.ref 400), DictEntry.mk (PyData.keyHash P (Str.ofString "__dict__")) (Value.str (Str.ofString "__dict__") 721) (Value.ref 403), DictEntry.mk (PyData.keyHash P (Str.ofString "__weakref__")) (Value.str (Str.ofString "__weakref__") 723) (Value.ref 404), DictEntry.mk (PyData.keyHash P (Str.ofString "__doc__")) (Value.str (Str.ofString "__doc__") 724) Value.none] 4) #[]) BT.nil BT.nil)) (BT.node (Obj.mk (Value.type "code") Option.none (Data.fields #[Value.str (Str.ofString "is_whole") 450, Value.str (Str.ofString "is_whole") 451, Value.str (Str.ofString "/claim/cut.py") 452, Value.int 112 0, Value.int 1 0, Value.int 0 0, Value.int 0 0, Value.int 3 0, Value.ref 204, Value.bool Bool.true, Value.int 181 0, Value.ref 205, Value.none, Value.ref 206, Value.ref 207, Value.ref 208, Value.int 454 0, Value.int 112 0, Value.str (Str.ofString "/claim/cut.py") 455]) #[]) (BT.node (Obj.mk (Value.type "tuple") Option.none (Data.seq #[] 0) #[]) BT.nil BT.nil) BT.nil)) (BT.node (Obj.mk (Value.type "tuple") Option.none (Data.seq #[Value.ref 85] 0) #[]) (BT.node (Obj.mk (Value.type "tuple") Option.none (Data.seq #[Value.str (Str.ofString "a") 416] 0) #[]) (BT.node (Obj.mk (Value.type "tuple") Option.none (Data.seq #[] 0) #[]) BT.nil BT.nil) (BT.node (Obj.mk (Value.type "tuple") Option.none (Data.seq #[] 0) #[]) BT.nil BT.nil)) (BT.node (Obj.mk (Value.type "type") Option.none (Data.cls (ClassData.mk (Str.ofString "Frame") [Value.type "object"] [Value.ref 241, Value.type "object"] 240 (Str.ofString "Frame") Bool.true [] [] Bool.false Option.none Bool.false)) #[Option.none, Option.none, Option.some (Value.str (Str.ofString "Frame") 479), Option.some (Value.str (Str.ofString "Frame") 487), Option.some (Value.builtin "object.__new__"), Option.some (Value.bool Bool.true)]) (BT.node (Obj.mk Value.none Option.none (Data.func (FuncData.mk (Str.ofString "do_stop") (Str.ofString "do_stop") aP63 (FuncBody.stmts aB63) aS44 0 [] Value.none Value.none Value.none Value.none Option.none Value.none Value.none 0)) #[]) BT.nil BT.nil) BT.nil)))) (BT.node (Obj.mk (Value.type "tuple") Option.none (Data.seq #[] 0) #[]) (BT.node (Obj.mk (Value.type "super") Option.none (Data.fields #[Value.ref 38, Value.ref 38, Value.ref 38]) #[]) (BT.node (Obj.mk Value.none Option.none (Data.func (FuncData.mk (Str.ofString "__init__") (Str.ofString "LedgerError.__init__") aP2 (FuncBody.stmts aB2) aS2 0 [] Value.none Value.none Value.none Value.none Option.none Value.none Value.none 0)) #[]) (BT.node (Obj.mk Value.none Option.none (Data.func (FuncData.mk (Str.ofString "decimal") (Str.ofString "decimal") aP19 (FuncBody.stmts aB19) aS19 0 [] Value.none Value.none Value.none Value.none Option.none Value.none Value.none 0)) #[]) (BT.node (Obj.mk (Value.type "code") Option.none (Data.fields #[Value.str (Str.ofString "give_up") 532, Value.str (Str.ofString "Machine.give_up") 533, Value.str (Str.ofString "/claim/cut.py") 534, Value.int 138 0, Value.int 2 0, Value.int 0 0, Value.int 0 0, Value.int 3 0, Value.ref 260, Value.bool Bool.true, Value.int 181 0, Value.ref 261, Value.none, Value.ref 262, Value.ref 263, Value.ref 264, Value.int 537 0, Value.int 138 0, Value.str (Str.ofString "/claim/cut.py") 538]) #[]) BT.nil BT.nil) (BT.node (Obj.mk (Value.type "tuple") Option.none (Data.seq #[] 0) #[]) BT.nil BT.nil)) (BT.node (Obj.mk Value.none Option.none (Data.func (FuncData.mk (Str.ofString "units_at") (Str.ofString "units_at") aP20 (FuncBody.stmts aB20) aS20 0 [] Value.none Value.none Value.none Value.none Option.none Value.none Value.none 0)) #[]) (BT.node (Obj.mk (Value.type "function") Option.none (Data.func (FuncData.mk (Str.ofString "do_jump") (Str.ofString "do_jump") aP58 (FuncBody.stmts aB58) aS44 3 [] Value.none Value.none Value.none (Value.str (Str.ofString "ledgerspeak.machine") 472) Option.none (Value.ref 328) Value.none 0)) #[]) BT.nil BT.nil) BT.nil)) (BT.node (Obj.mk Value.none Option.none (Data.fields #[]) #[]) (BT.node (Obj.mk Value.none Option.none (Data.fields #[]) #[]) (BT.node (Obj.mk (Value.type "tuple") Option.none (Data.seq #[Value.str (Str.ofString "machine") 584, Value.str (Str.ofString "op") 585] 0) #[]) BT.nil BT.nil) (BT.node (Obj.mk (Value.type "function") Option.none (Data.func (FuncData.mk (Str.ofString "_law_run") (Str.ofString "_law_run") aP59 (FuncBody.stmts aB59) aS59 3 [] Value.none Value.none Value.none (Value.str (Str.ofString "law_pb0246_01") 727) Option.none (Value.ref 424) Value.none 0)) #[]) BT.nil BT.nil)) (BT.node (Obj.mk Value.none Option.none (Data.fields #[]) #[]) (BT.node (Obj.mk (Value.type "tuple") Option.none (Data.seq #[] 0) #[]) BT.nil BT.nil) BT.nil))) (BT.node (Obj.mk Value.none Option.none (Data.func (FuncData.mk (Str.ofString "pressed") (Str.ofString "pressed") aP3 (FuncBody.stmts aB3) aS3 0 [] Value.none Value.none Value.none Value.none Option.none Value.none Value.none 0)) #[]) (BT.node (Obj.mk (Value.type "tuple") Option.none (Data.seq #[Value.ref 85] 0) #[]) (BT.node (Obj.mk (Value.type "function") Option.none (Data.func (FuncData.mk (Str.ofString "units_beside") (Str.ofString "units_beside") aP15 (FuncBody.stmts aB15) aS15 3 [] Value.none Value.none Value.none (Value.str (Str.ofString "ledgerspeak.decimals") 341) Option.none (Value.ref 152) Value.none 0)) #[]) (BT.node (Obj.mk (Value.type "tuple") Option.none (Data.seq #[] 0) #[]) BT.nil BT.nil) (BT.node (Obj.mk (Value.type "tuple") Option.none (Data.seq #[Value.str (Str.ofString "tape") 732, Value.str (Str.ofString "limit") 733, Value.str (Str.ofString "cells") 734, Value.str (Str.ofString "spot") 735, Value.str (Str.ofString "cell") 736] 0) #[]) BT.nil BT.nil)) (BT.node (Obj.mk (Value.type "function") Option.none (Data.func (FuncData.mk (Str.ofString "whole_of") (Str.ofString "whole_of") aP16 (FuncBody.stmts aB16) aS16 3 [] Value.none Value.none Value.none (Value.str (Str.ofString "ledgerspeak.decimals") 341) Option.none (Value.ref 216) Value.none 0)) #[]) (BT.node (Obj.mk Value.none Option.none (Data.fields #[]) #[]) BT.nil BT.nil) BT.nil)) (BT.node (Obj.mk (Value.type "dict") Option.none (Data.dict #[DictEntry.mk (PyData.keyHash P (Str.ofString "__module__")) (Value.str (Str.ofString "__module__") 332) (Value.str (Str.ofString "ledgerspeak.errors") 251), DictEntry.mk (PyData.keyHash P (Str.ofString "__firstlineno__")) (Value.str (Str.ofString "__firstlineno__") 336) (Value.int 54 335), DictEntry.mk (PyData.keyHash P (Str.ofString "__static_attributes__")) (Value.str (Str.ofString "__static_attributes__") 337) (Value.ref 120), DictEntry.mk (PyData.keyHash P (Str.ofString "__doc__")) (Value.str (Str.ofString "__doc__") 338) Value.none] 2) #[]) (BT.node (Obj.mk (Value.type "tuple") Option.none (Data.seq #[Value.str (Str.ofString "a") 423, Value.str (Str.ofString "b") 424, Value.str (Str.ofString "many") 425] 0) #[]) (BT.node (Obj.mk Value.none Option.none (Data.func (FuncData.mk (Str.ofString "do_key") (Str.ofString "do_key") aP65 (FuncBody.stmts aB65) aS44 0 [] Value.none Value.none Value.none Value.none Option.none Value.none Value.none 0)) #[]) BT.nil BT.nil) BT.nil) (BT.node (Obj.mk (Value.type "tuple") Option.none (Data.seq #[] 0) #[]) (BT.node (Obj.mk (Value.type "code") Option.none (Data.fields #[Value.str (Str.ofString "op_table") 671, Value.str (Str.ofString "op_table") 672, Value.str (Str.ofString "/claim/cut.py") 673, Value.int 196 0, Value.int 0 0, Value.int 0 0, Value.int 0 0, Value.int 3 0, Value.ref 372, Value.bool Bool.true, Value.int 181 0, Value.ref 373, Value.none, Value.ref 374, Value.ref 375, Value.ref 376, Value.int 674 0, Value.int 196 0, Value.str (Str.ofString "/claim/cut.py") 675]) #[]) BT.nil BT.nil) BT.nil))))) (BT.node (Obj.mk (Value.type "code") Option.none (Data.fields #[Value.str (Str.ofString "<module>") 182, Value.str (Str.ofString "<module>") 183, Value.str (Str.ofString "/claim/cut.py") 184, Value.int 1 0, Value.int 0 0, Value.int 0 0, Value.int 0 0, Value.int 0 0, Value.ref 11, Value.bool Bool.false, Value.int 181 0, Value.ref 12, Value.none, Value.none, Value.none, Value.none, Value.int 185 0, Value.int 1 0, Value.str (Str.ofString "/claim/cut.py") 186]) #[]) (BT.node (Obj.mk (Value.type "frame") Option.none Data.plain #[Option.some (Value.ref 20), Option.some (Value.ref 3), Option.some (Value.ref 17), Option.none, Option.some (Value.str (Str.ofString "ledgerspeak.codes") 187), Option.none, Option.some (Value.ref 0)]) (BT.node (Obj.mk (Value.type "dict") Option.none (Data.dict #[DictEntry.mk (PyData.keyHash P (Str.ofString "__module__")) (Value.str (Str.ofString "__module__") 199) (Value.str (Str.ofString "ledgerspeak.codes") 187), DictEntry.mk (PyData.keyHash P (Str.ofString "__firstlineno__")) (Value.str (Str.ofString "__firstlineno__") 203) (Value.int 3 202), DictEntry.mk (PyData.keyHash P (Str.ofString "__init__")) (Value.str (Str.ofString "__init__") 212) (Value.ref 28), DictEntry.mk (PyData.keyHash P (Str.ofString "told")) (Value.str (Str.ofString "told") 219) (Value.ref 35), DictEntry.mk (PyData.keyHash P (Str.ofString "__static_attributes__")) (Value.str (Str.ofString "__static_attributes__") 222) (Value.ref 36), DictEntry.mk (PyData.keyHash P (Str.ofString "__dict__")) (Value.str (Str.ofString "__dict__") 224) (Value.ref 39), DictEntry.mk (PyData.keyHash P (Str.ofString "__weakref__")) (Value.str (Str.ofString "__weakref__") 226) (Value.ref 40), DictEntry.mk (PyData.keyHash P (Str.ofString "__doc__")) (Value.str (Str.ofString "__doc__") 227) Value.none] 4) #[]) (BT.node (Obj.mk (Value.type "tuple") Option.none (Data.seq #[] 0) #[]) (BT.node (Obj.mk (Value.type "tuple") Option.none (Data.seq #[] 0) #[]) (BT.node (Obj.mk Value.none Option.none (Data.fields #[]) #[]) BT.nil BT.nil) (BT.node (Obj.mk (Value.type "tuple") Option.none (Data.seq #[] 0) #[]) BT.nil BT.nil)) (BT.node (Obj.mk (Value.type "tuple") Option.none (Data.seq #[] 0) #[]) (BT.node (Obj.mk (Value.type "tuple") Option.none (Data.seq #[Value.str (Str.ofString "machine") 616, Value.str (Str.ofString "op") 617] 0) #[]) BT.nil BT.nil) BT.nil)) (BT.node (Obj.mk (Value.type "tuple") Option.none (Data.seq #[Value.ref 85] 0) #[]) (BT.node (Obj.mk Value.none Option.none (Data.func (FuncData.mk (Str.ofString "minus") (Str.ofString "minus") aP14 (FuncBody.stmts aB14) aS14 0 [] Value.none Value.none Value.none Value.none Option.none Value.none Value.none 0)) #[]) (BT.node (Obj.mk (Value.type "code") Option.none (Data.fields #[Value.str (Str.ofString "do_reckon") 573, Value.str (Str.ofString "do_reckon") 574, Value.str (Str.ofString "/claim/cut.py") 575, Value.int 154 0, Value.int 2 0, Value.int 0 0, Value.int 0 0, Value.int 3 0, Value.ref 288, Value.bool Bool.true, Value.int 181 0, Value.ref 289, Value.none, Value.ref 290, Value.ref 291, Value.ref 292, Value.int 578 0, Value.int 154 0, Value.str (Str.ofString "/claim/cut.py") 579]) #[]) BT.nil BT.nil) (BT.node (Obj.mk (Value.type "tuple") Option.none (Data.seq #[Value.str (Str.ofString "ops") 749, Value.str (Str.ofString "cells") 750, Value.str (Str.ofString "do_one") 751, Value.str (Str.ofString "deeds") 752] 0) #[]) BT.nil BT.nil)) (BT.node (Obj.mk Value.none Option.none (Data.fields #[Value.int 123 0, Value.int 4 0, Value.ref 237]) #[]) (BT.node (Obj.mk (Value.type "function") Option.none (Data.func (FuncData.mk (Str.ofString "do_count") (Str.ofString "do_count") aP61 (FuncBody.stmts aB61) aS61 3 [] Value.none Value.none Value.none (Value.str (Str.ofString "ledgerspeak.machine") 472) Option.none (Value.ref 356) Value.none 0)) #[]) BT.nil BT.nil) BT.nil))) (BT.node (Obj.mk (Value.type "code") Option.none (Data.fields #[Value.str (Str.ofString "relabelled") 237, Value.str (Str.ofString "relabelled") 238, Value.str (Str.ofString "/claim/cut.py") 239, Value.int 19 0, Value.int 2 0, Value.int 0 0, Value.int 0 0, Value.int 3 0, Value.ref 50, Value.bool Bool.true, Value.int 181 0, Value.ref 51, Value.none, Value.none, Value.none, Value.ref 52, Value.int 240 0, Value.int 19 0, Value.str (Str.ofString "/claim/cut.py") 241]) #[]) (BT.node (Obj.mk (Value.type "type") Option.none (Data.cls (ClassData.mk (Str.ofString "LedgerError") [Value.type "Exception"] [Value.ref 85, Value.type "Exception", Value.type "BaseException", Value.type "object"] 84 (Str.ofString "LedgerError") Bool.true [] [Value.ref 98, Value.ref 110, Value.ref 122] Bool.false Option.none Bool.false)) #[Option.some (Value.ref 60), Option.none, Option.some (Value.str (Str.ofString "LedgerError") 253), Option.some (Value.str (Str.ofString "LedgerError") 261), Option.some (Value.builtin "Exception.__new__"), Option.some (Value.bool Bool.true)]) (BT.node (Obj.mk (Value.type "tuple") Option.none (Data.seq #[Value.str (Str.ofString "a") 377, Value.str (Str.ofString "b") 378, Value.str (Str.ofString "scale") 379] 0) #[]) (BT.node (Obj.mk (Value.type "tuple") Option.none (Data.seq #[] 0) #[]) BT.nil BT.nil) (BT.node (Obj.mk (Value.type "super") Option.none (Data.fields #[Value.ref 402, Value.ref 402, Value.ref 402]) #[]) BT.nil BT.nil)) (BT.node (Obj.mk (Value.type "tuple") Option.none (Data.seq #[Value.str (Str.ofString "a") 460] 0) #[]) (BT.node (Obj.mk Value.none Option.none (Data.func (FuncData.mk (Str.ofString "begin_frame") (Str.ofString "begin_frame") aP60 (FuncBody.stmts aB60) aS60 0 [] Value.none Value.none Value.none Value.none Option.none Value.none Value.none 0)) #[]) BT.nil BT.nil) BT.nil)) (BT.node (Obj.mk Value.none Option.none (Data.fields #[]) #[]) (BT.node (Obj.mk (Value.type "function") Option.none (Data.func (FuncData.mk (Str.ofString "negated") (Str.ofString "negated") aP18 (FuncBody.stmts aB18) aS18 3 [] Value.none Value.none Value.none (Value.str (Str.ofString "ledgerspeak.decimals") 341) Option.none (Value.ref 180) Value.none 0)) #[]) (BT.node (Obj.mk (Value.type "tuple") Option.none (Data.seq #[] 0) #[]) BT.nil BT.nil) (BT.node (Obj.mk (Value.type "function") Option.none (Data.func (FuncData.mk (Str.ofString "law") (Str.ofString "law") aP62 (FuncBody.stmts aB62) aS62 3 [] Value.none Value.none Value.none (Value.str (Str.ofString "law_pb0246_01") 727) Option.none (Value.ref 436) Value.none 0)) #[]) BT.nil BT.nil)) (BT.node (Obj.mk (Value.type "builtin_function_or_method") Option.none (Data.fields #[Value.builtin "object.__init_subclass__", Value.ref 241]) #[]) (BT.node (Obj.mk Value.none Option.none (Data.fields #[]) #[]) BT.nil BT.nil) BT.nil)))) (BT.node (Obj.mk (Value.type "tuple") Option.none (Data.seq #[] 0) #[]) (BT.node (Obj.mk (Value.type "tuple") Option.none (Data.seq #[Value.str (Str.ofString "op") 233] 0) #[]) (BT.node (Obj.mk Value.none Option.none (Data.fields #[]) #[]) (BT.node (Obj.mk Value.none Option.none (Data.fields #[]) #[]) (BT.node (Obj.mk (Value.type "type") Option.none (Data.cls (ClassData.mk (Str.ofString "Machine") [Value.type "object"] [Value.ref 269, Value.type "object"] 268 (Str.ofString "Machine") Bool.true [] [] Bool.false Option.none Bool.false)) #[Option.none, Option.none, Option.some (Value.str (Str.ofString "Machine") 511), Option.some (Value.str (Str.ofString "Machine") 519), Option.some (Value.builtin "object.__new__"), Option.some (Value.bool Bool.true)]) BT.nil BT.nil) (BT.node (Obj.mk Value.none Option.none (Data.func (FuncData.mk (Str.ofString "__init__") (Str.ofString "Deeds.__init__") aP57 (FuncBody.stmts aB57) aS57 0 [] Value.none Value.none Value.none Value.none Option.none Value.none Value.none 0)) #[]) BT.nil BT.nil)) (BT.node (Obj.mk Value.none Option.none (Data.fields #[]) #[]) (BT.node (Obj.mk (Value.type "tuple") Option.none (Data.seq #[] 0) #[]) BT.nil BT.nil) BT.nil)) (BT.node (Obj.mk (Value.type "dict") Option.none (Data.dict #[DictEntry.mk (PyData.keyHash P (Str.ofString "__module__")) (Value.str (Str.ofString "__module__") 316) (Value.str (Str.ofString "ledgerspeak.errors") 251), DictEntry.mk (PyData.keyHash P (Str.ofString "__firstlineno__")) (Value.str (Str.ofString "__firstlineno__") 320) (Value.int 52 319), DictEntry.mk (PyData.keyHash P (Str.ofString "__static_attributes__")) (Value.str (Str.ofString "__static_attributes__") 321) (Value.ref 108), DictEntry.mk (PyData.keyHash P (Str.ofString "__doc__")) (Value.str (Str.ofString "__doc__") 322) Value.none] 2) #[]) (BT.node (Obj.mk (Value.type "code") Option.none (Data.fields #[Value.str (Str.ofString "times") 405, Value.str (Str.ofString "times") 406, Value.str (Str.ofString "/claim/cut.py") 407, Value.int 87 0, Value.int 2 0, Value.int 0 0, Value.int 0 0, Value.int 3 0, Value.ref 168, Value.bool Bool.true, Value.int 181 0, Value.ref 169, Value.none, Value.ref 170, Value.ref 171, Value.ref 172, Value.int 410 0, Value.int 87 0, Value.str (Str.ofString "/claim/cut.py") 411]) #[]) (BT.node (Obj.mk (Value.type "function") Option.none (Data.func (FuncData.mk (Str.ofString "do_put") (Str.ofString "do_put") aP44 (FuncBody.stmts aB44) aS44 3 [] Value.none Value.none Value.none (Value.str (Str.ofString "ledgerspeak.machine") 472) Option.none (Value.ref 300) Value.none 0)) #[]) BT.nil BT.nil) (BT.node (Obj.mk (Value.type "tuple") Option.none (Data.seq #[] 0) #[]) BT.nil BT.nil)) (BT.node (Obj.mk (Value.type "code") Option.none (Data.fields #[Value.str (Str.ofString "__init__") 491, Value.str (Str.ofString "Frame.__init__") 492, Value.str (Str.ofString "/claim/cut.py") 493, Value.int 123 0, Value.int 3 0, Value.int 0 0, Value.int 0 0, Value.int 3 0, Value.ref 232, Value.bool Bool.true, Value.int 181 0, Value.ref 233, Value.none, Value.ref 234, Value.ref 235, Value.ref 236, Value.int 497 0, Value.int 123 0, Value.str (Str.ofString "/claim/cut.py") 498]) #[]) (BT.node (Obj.mk (Value.type "tuple") Option.none (Data.seq #[] 0) #[]) BT.nil BT.nil) BT.nil))) (BT.node (Obj.mk (Value.type "builtin_function_or_method") Option.none (Data.fields #[Value.builtin "type.__prepare__", Value.type "type"]) #[]) (BT.node (Obj.mk Value.none Option.none (Data.fields #[]) #[]) (BT.node (Obj.mk (Value.type "tuple") Option.none (Data.seq #[] 0) #[]) (BT.node (Obj.mk Value.none Option.none (Data.func (FuncData.mk (Str.ofString "worth_by") (Str.ofString "worth_by") aP42 (FuncBody.stmts aB42) aS42 0 [] Value.none Value.none Value.none Value.none Option.none Value.none Value.none 0)) #[]) BT.nil BT.nil) (BT.node (Obj.mk (Value.type "function") Option.none (Data.func (FuncData.mk (Str.ofString "_law_draw") (Str.ofString "_law_draw") aP64 (FuncBody.stmts aB64) aS64 3 [] Value.none Value.none Value.none (Value.str (Str.ofString "law_pb0246_01") 727) Option.none (Value.ref 412) Value.none 0)) #[]) BT.nil BT.nil)) (BT.node (Obj.mk (Value.type "tuple") Option.none (Data.seq #[] 0) #[]) (BT.node (Obj.mk (Value.type "code") Option.none (Data.fields #[Value.str (Str.ofString "leave_frame") 638, Value.str (Str.ofString "leave_frame") 639, Value.str (Str.ofString "/claim/cut.py") 640, Value.int 183 0, Value.int 2 0, Value.int 0 0, Value.int 0 0, Value.int 3 0, Value.ref 344, Value.bool Bool.true, Value.int 181 0, Value.ref 345, Value.none, Value.ref 346, Value.ref 347, Value.ref 348, Value.int 643 0, Value.int 183 0, Value.str (Str.ofString "/claim/cut.py") 644]) #[]) BT.nil BT.nil) BT.nil)) (BT.node (Obj.mk (Value.type "tuple") Option.none (Data.seq #[] 0) #[]) (BT.node (Obj.mk (Value.type "function") Option.none (Data.func (FuncData.mk (Str.ofString "quotient") (Str.ofString "quotient") aP21 (FuncBody.stmts aB21) aS21 3 [] (Value.ref 182) Value.none Value.none (Value.str (Str.ofString "ledgerspeak.decimals") 341) Option.none (Value.ref 188) Value.none 0)) #[]) (BT.node (Obj.mk Value.none Option.none (Data.fields #[]) #[]) BT.nil BT.nil) BT.nil) (BT.node (Obj.mk (Value.type "tuple") Option.none (Data.seq #[] 0) #[]) (BT.node (Obj.mk (Value.type "tuple") Option.none (Data.seq #[Value.str (Str.ofString "code") 680, Value.str (Str.ofString "deeds") 681, Value.str (Str.ofString "limit") 682, Value.str (Str.ofString "machine") 683, Value.str (Str.ofString "table") 684, Value.str (Str.ofString "steps") 685, Value.str (Str.ofString "op") 686] 0) #[]) BT.nil BT.nil) BT.nil))))))) (BT.node (Obj.mk Value.none Option.none (Data.dict #[DictEntry.mk (PyData.keyHash P (Str.ofString "type.__subclasses__.Exception.0")) (Value.str (Str.ofString "type.__subclasses__.Exception.0") 289) (Value.int 85 0), DictEntry.mk (PyData.keyHash P (Str.ofString "type.__subclasses__.Exception.n")) (Value.str (Str.ofString "type.__subclasses__.Exception.n") 290) (Value.int 1 0)] 2) #[]) (BT.node (boot_o_4 P) (BT.node (boot_o_8 P) (BT.node (Obj.mk (Value.type "builtin_function_or_method") Option.none (Data.fields #[Value.builtin "type.__prepare__", Value.type "type"]) #[]) (BT.node (Obj.mk (Value.type "tuple") Option.none (Data.seq #[] 0) #[]) (BT.node (Obj.mk Value.none Option.none (Data.fields #[Value.int 43 0, Value.int 4 0, Value.ref 74, Value.int 48 0, Value.int 4 0, Value.ref 81]) #[]) (BT.node (Obj.mk (Value.type "tuple") Option.none (Data.seq #[] 0) #[]) (BT.node (Obj.mk (Value.type "tuple") Option.none (Data.seq #[] 0) #[]) BT.nil BT.nil) (BT.node (Obj.mk (Value.type "code") Option.none (Data.fields #[Value.str (Str.ofString "run_code") 677, Value.str (Str.ofString "run_code") 678, Value.str (Str.ofString "/claim/cut.py") 679, Value.int 198 0, Value.int 3 0, Value.int 0 0, Value.int 0 0, Value.int 3 0, Value.ref 379, Value.bool Bool.true, Value.int 181 0, Value.ref 380, Value.none, Value.ref 381, Value.ref 382, Value.ref 383, Value.int 687 0, Value.int 198 0, Value.str (Str.ofString "/claim/cut.py") 688]) #[]) BT.nil BT.nil)) (BT.node (Obj.mk (Value.type "tuple") Option.none (Data.seq #[Value.str (Str.ofString "a") 432, Value.str (Str.ofString "b") 433, Value.str (Str.ofString "found") 434, Value.str (Str.ofString "turn") 435] 0) #[]) (BT.node (Obj.mk Value.none Option.none (Data.func (FuncData.mk (Str.ofString "do_test") (Str.ofString "do_test") aP76 (FuncBody.stmts aB76) aS44 0 [] Value.none Value.none Value.none Value.none Option.none Value.none Value.none 0)) #[]) BT.nil BT.nil) BT.nil)) (BT.node (Obj.mk (Value.type "tuple") Option.none (Data.seq #[] 0) #[]) (BT.node (Obj.mk (Value.type "function") Option.none (Data.func (FuncData.mk (Str.ofString "plus") (Str.ofString "plus") aP30 (FuncBody.stmts aB30) aS14 3 [] Value.none Value.none Value.none (Value.str (Str.ofString "ledgerspeak.decimals") 341) Option.none (Value.ref 159) Value.none 0)) #[]) (BT.node (Obj.mk (Value.type "tuple") Option.none (Data.seq #[] 0) #[]) BT.nil BT.nil) (BT.node (Obj.mk Value.none Option.none (Data.func (FuncData.mk (Str.ofString "_law_place") (Str.ofString "_law_place") aP77 (FuncBody.stmts aB77) aS77 0 [] Value.none Value.none Value.none Value.none Option.none Value.none Value.none 0)) #[]) BT.nil BT.nil)) (BT.node (Obj.mk (Value.type "function") Option.none (Data.func (FuncData.mk (Str.ofString "fits") (Str.ofString "fits") aP31 (FuncBody.stmts aB31) aS31 3 [] Value.none Value.none Value.none (Value.str (Str.ofString "ledgerspeak.decimals") 341) Option.none (Value.ref 223) Value.none 0)) #[]) (BT.node (Obj.mk Value.none Option.none (Data.fields #[]) #[]) BT.nil BT.nil) BT.nil))) (BT.node (Obj.mk (Value.type "code") Option.none (Data.fields #[Value.str (Str.ofString "labels_of") 230, Value.str (Str.ofString "labels_of") 231, Value.str (Str.ofString "/claim/cut.py") 232, Value.int 11 0, Value.int 1 0, Value.int 0 0, Value.int 0 0, Value.int 3 0, Value.ref 43, Value.bool Bool.true, Value.int 181 0, Value.ref 44, Value.none, Value.ref 45, Value.ref 46, Value.ref 47, Value.int 234 0, Value.int 11 0, Value.str (Str.ofString "/claim/cut.py") 235]) #[]) (BT.node (Obj.mk Value.none Option.none (Data.func (FuncData.mk (Str.ofString "told") (Str.ofString "LedgerError.told") aP8 (FuncBody.stmts aB8) aS8 0 [] Value.none Value.none Value.none Value.none Option.none Value.none Value.none 0)) #[]) (BT.node (Obj.mk Value.none Option.none (Data.func (FuncData.mk (Str.ofString "kept") (Str.ofString "kept") aP32 (FuncBody.stmts aB32) aS32 0 [] Value.none Value.none Value.none Value.none Option.none Value.none Value.none 0)) #[]) (BT.node (Obj.mk (Value.type "super") Option.none (Data.fields #[Value.ref 269, Value.ref 269, Value.ref 269]) #[]) BT.nil BT.nil) (BT.node (Obj.mk (Value.type "tuple") Option.none (Data.seq #[Value.str (Str.ofString "do") 715, Value.str (Str.ofString "number") 716, Value.str (Str.ofString "put") 717, Value.str (Str.ofString "test") 718] 0) #[]) BT.nil BT.nil)) (BT.node (Obj.mk Value.none Option.none (Data.func (FuncData.mk (Str.ofString "is_whole") (Str.ofString "is_whole") aP33 (FuncBody.stmts aB33) aS18 0 [] Value.none Value.none Value.none Value.none Option.none Value.none Value.none 0)) #[]) (BT.node (Obj.mk (Value.type "function") Option.none (Data.func (FuncData.mk (Str.ofString "do_choose") (Str.ofString "do_choose") aP78 (FuncBody.stmts aB78) aS78 3 [] Value.none Value.none Value.none (Value.str (Str.ofString "ledgerspeak.machine") 472) Option.none (Value.ref 335) Value.none 0)) #[]) BT.nil BT.nil) BT.nil)) (BT.node (Obj.mk (Value.type "builtin_function_or_method") Option.none (Data.fields #[Value.builtin "object.__init_subclass__", Value.ref 110]) #[]) (BT.node (Obj.mk Value.none Option.none (Data.fields #[]) #[]) (BT.node (Obj.mk (Value.type "tuple") Option.none (Data.seq #[Value.str (Str.ofString "machine") 592, Value.str (Str.ofString "op") 593] 0) #[]) BT.nil BT.nil) (BT.node (Obj.mk (Value.type "function") Option.none (Data.func (FuncData.mk (Str.ofString "_law_runs_alike") (Str.ofString "_law_runs_alike") aP79 (FuncBody.stmts aB79) aS79 3 [] Value.none Value.none Value.none (Value.str (Str.ofString "law_pb0246_01") 727) Option.none (Value.ref 431) Value.none 0)) #[]) BT.nil BT.nil)) (BT.node (Obj.mk (Value.type "dict") Option.none (Data.dict #[DictEntry.mk (PyData.keyHash P (Str.ofString "__module__")) (Value.str (Str.ofString "__module__") 486) (Value.str (Str.ofString "ledgerspeak.machine") 472), DictEntry.mk (PyData.keyHash P (Str.ofString "__firstlineno__")) (Value.str (Str.ofString "__firstlineno__") 490) (Value.int 121 489), DictEntry.mk (PyData.keyHash P (Str.ofString "__init__")) (Value.str (Str.ofString "__init__") 499) (Value.ref 238), DictEntry.mk (PyData.keyHash P (Str.ofString "__static_attributes__")) (Value.str (Str.ofString "__static_attributes__") 503) (Value.ref 239), DictEntry.mk (PyData.keyHash P (Str.ofString "__dict__")) (Value.str (Str.ofString "__dict__") 505) (Value.ref 242), DictEntry.mk (PyData.keyHash P (Str.ofString "__weakref__")) (Value.str (Str.ofString "__weakref__") 507) (Value.ref 243), DictEntry.mk (PyData.keyHash P (Str.ofString "__doc__")) (Value.str (Str.ofString "__doc__") 508) Value.none] 4) #[]) (BT.node (Obj.mk (Value.type "tuple") Option.none (Data.seq #[] 0) #[]) BT.nil BT.nil) BT.nil)))) (BT.node (Obj.mk (Value.type "tuple") Option.none (Data.seq #[Value.str (Str.ofString "self") 207, Value.str (Str.ofString "ops") 208, Value.str (Str.ofString "begins") 209] 0) #[]) (BT.node (Obj.mk (Value.type "getset_descriptor") Option.none (Data.fields #[Value.str (Str.ofString "__weakref__") 225, Value.ref 38, Value.builtin "ExceptionGroup.__weakref__", Value.none]) #[]) (BT.node (Obj.mk (Value.type "tuple") Option.none (Data.seq #[] 0) #[]) (BT.node (Obj.mk (Value.type "tuple") Option.none (Data.seq #[] 0) #[]) (BT.node (Obj.mk Value.none Option.none (Data.func (FuncData.mk (Str.ofString "give_up") (Str.ofString "Machine.give_up") aP48 (FuncBody.stmts aB48) aS48 0 [] Value.none Value.none Value.none Value.none Option.none Value.none Value.none 0)) #[]) BT.nil BT.nil) (BT.node (Obj.mk (Value.type "frame") Option.none Data.plain #[Option.some (Value.ref 391), Option.some (Value.ref 3), Option.some (Value.ref 388), Option.none, Option.some (Value.str (Str.ofString "ledgerspeak.runner") 690), Option.none, Option.some (Value.ref 0)]) BT.nil BT.nil)) (BT.node (Obj.mk (Value.type "tuple") Option.none (Data.seq #[] 0) #[]) (BT.node (Obj.mk (Value.type "code") Option.none (Data.fields #[Value.str (Str.ofString "do_jump") 613, Value.str (Str.ofString "do_jump") 614, Value.str (Str.ofString "/claim/cut.py") 615, Value.int 172 0, Value.int 2 0, Value.int 0 0, Value.int 0 0, Value.int 3 0, Value.ref 323, Value.bool Bool.true, Value.int 181 0, Value.ref 324, Value.none, Value.ref 325, Value.ref 326, Value.ref 327, Value.int 618 0, Value.int 172 0, Value.str (Str.ofString "/claim/cut.py") 619]) #[]) BT.nil BT.nil) BT.nil)) (BT.node (Obj.mk (Value.type "tuple") Option.none (Data.seq #[] 0) #[]) (BT.node (Obj.mk (Value.type "tuple") Option.none (Data.seq #[] 0) #[]) (BT.node (Obj.mk Value.none Option.none (Data.fields #[]) #[]) BT.nil BT.nil) (BT.node (Obj.mk (Value.type "code") Option.none (Data.fields #[Value.str (Str.ofString "_law_run") 746, Value.str (Str.ofString "_law_run") 747, Value.str (Str.ofString "/claim/cut.py") 748, Value.int 232 0, Value.int 2 0, Value.int 0 0, Value.int 0 0, Value.int 3 0, Value.ref 419, Value.bool Bool.true, Value.int 181 0, Value.ref 420, Value.none, Value.ref 421, Value.ref 422, Value.ref 423, Value.int 755 0, Value.int 232 0, Value.str (Str.ofString "/claim/cut.py") 756]) #[]) BT.nil BT.nil)) (BT.node (Obj.mk (Value.type "tuple") Option.none (Data.seq #[] 0) #[]) (BT.node (Obj.mk (Value.type "tuple") Option.none (Data.seq #[Value.str (Str.ofString "machine") 657, Value.str (Str.ofString "op") 658, Value.str (Str.ofString "slots") 659] 0) #[]) BT.nil BT.nil) BT.nil))) (BT.node (Obj.mk Value.none Option.none (Data.fields #[]) #[]) (BT.node (Obj.mk (Value.type "builtin_function_or_method") Option.none (Data.fields #[Value.builtin "object.__init_subclass__", Value.ref 85]) #[]) (BT.node (Obj.mk (Value.type "code") Option.none (Data.fields #[Value.str (Str.ofString "units_beside") 374, Value.str (Str.ofString "units_beside") 375, Value.str (Str.ofString "/claim/cut.py") 376, Value.int 78 0, Value.int 2 0, Value.int 0 0, Value.int 0 0, Value.int 3 0, Value.ref 147, Value.bool Bool.true, Value.int 181 0, Value.ref 148, Value.none, Value.ref 149, Value.ref 150, Value.ref 151, Value.int 380 0, Value.int 78 0, Value.str (Str.ofString "/claim/cut.py") 381]) #[]) (BT.node (Obj.mk (Value.type "function") Option.none (Data.func (FuncData.mk (Str.ofString "calculated") (Str.ofString "calculated") aP49 (FuncBody.stmts aB49) aS49 3 [] Value.none Value.none Value.none (Value.str (Str.ofString "ledgerspeak.machine") 472) Option.none (Value.ref 279) Value.none 0)) #[]) BT.nil BT.nil) (BT.node (Obj.mk Value.none Option.none (Data.fields #[]) #[]) BT.nil BT.nil)) (BT.node (Obj.mk (Value.type "code") Option.none (Data.fields #[Value.str (Str.ofString "whole_of") 457, Value.str (Str.ofString "whole_of") 458, Value.str (Str.ofString "/claim/cut.py") 459, Value.int 114 0, Value.int 1 0, Value.int 0 0, Value.int 0 0, Value.int 3 0, Value.ref 211, Value.bool Bool.true, Value.int 181 0, Value.ref 212, Value.none, Value.ref 213, Value.ref 214, Value.ref 215, Value.int 461 0, Value.int 114 0, Value.str (Str.ofString "/claim/cut.py") 462]) #[]) (BT.node (Obj.mk (Value.type "tuple") Option.none (Data.seq #[] 0) #[]) BT.nil BT.nil) BT.nil)) (BT.node (Obj.mk (Value.type "tuple") Option.none (Data.seq #[] 0) #[]) (BT.node (Obj.mk Value.none Option.none (Data.fields #[]) #[]) (BT.node (Obj.mk (Value.type "tuple") Option.none (Data.seq #[] 0) #[]) BT.nil BT.nil) BT.nil) (BT.node (Obj.mk (Value.type "dict") Option.none (Data.dict #[DictEntry.mk (PyData.keyHash P (Str.ofString "__module__")) (Value.str (Str.ofString "__module__") 518) (Value.str (Str.ofString "ledgerspeak.machine") 472), DictEntry.mk (PyData.keyHash P (Str.ofString "__qualname__")) (Value.str (Str.ofString "__qualname__") 520) (Value.str (Str.ofString "Machine") 519), DictEntry.mk (PyData.keyHash P (Str.ofString "__firstlineno__")) (Value.str (Str.ofString "__firstlineno__") 522) (Value.int 127 521), DictEntry.mk (PyData.keyHash P (Str.ofString "__init__")) (Value.str (Str.ofString "__init__") 531) (Value.ref 259), DictEntry.mk (PyData.keyHash P (Str.ofString "give_up")) (Value.str (Str.ofString "give_up") 539) (Value.ref 266), DictEntry.mk (PyData.keyHash P (Str.ofString "__static_attributes__")) (Value.str (Str.ofString "__static_attributes__") 547) (Value.ref 267)] 6) #[]) (BT.node (Obj.mk Value.none Option.none (Data.func (FuncData.mk (Str.ofString "op_table") (Str.ofString "op_table") aP80 (FuncBody.stmts aB80) aS80 0 [] Value.none Value.none Value.none Value.none Option.none Value.none Value.none 0)) #[]) BT.nil BT.nil) BT.nil))))) (BT.node (Obj.mk Value.none Option.none (Data.fields #[Value.int 3 0, Value.int 0 0, Value.ref 20, Value.int 11 0, Value.int 0 0, Value.ref 48, Value.int 19 0, Value.int 0 0, Value.ref 53, Value.int 28 0, Value.int 0 0, Value.ref 58, Value.int 41 0, Value.int 0 0, Value.ref 65, Value.int 50 0, Value.int 0 0, Value.ref 94, Value.int 52 0, Value.int 0 0, Value.ref 106, Value.int 54 0, Value.int 0 0, Value.ref 118, Value.int 60 0, Value.int 0 0, Value.ref 130, Value.int 64 0, Value.int 0 0, Value.ref 138, Value.int 71 0, Value.int 0 0, Value.ref 145, Value.int 78 0, Value.int 0 0, Value.ref 152, Value.int 81 0, Value.int 0 0, Value.ref 159, Value.int 84 0, Value.int 0 0, Value.ref 166, Value.int 87 0, Value.int 0 0, Value.ref 173, Value.int 89 0, Value.int 0 0, Value.ref 180, Value.int 91 0, Value.int 0 0, Value.ref 188, Value.int 95 0, Value.int 0 0, Value.ref 195, Value.int 104 0, Value.int 0 0, Value.ref 202, Value.int 112 0, Value.int 0 0, Value.ref 209, Value.int 114 0, Value.int 0 0, Value.ref 216, Value.int 116 0, Value.int 0 0, Value.ref 223, Value.int 121 0, Value.int 0 0, Value.ref 230, Value.int 127 0, Value.int 0 0, Value.ref 251, Value.int 141 0, Value.int 0 0, Value.ref 279, Value.int 149 0, Value.int 0 0, Value.ref 286, Value.int 154 0, Value.int 0 0, Value.ref 293, Value.int 161 0, Value.int 0 0, Value.ref 300, Value.int 164 0, Value.int 0 0, Value.ref 307, Value.int 166 0, Value.int 0 0, Value.ref 314, Value.int 169 0, Value.int 0 0, Value.ref 321, Value.int 172 0, Value.int 0 0, Value.ref 328, Value.int 174 0, Value.int 0 0, Value.ref 335, Value.int 178 0, Value.int 0 0, Value.ref 342, Value.int 183 0, Value.int 0 0, Value.ref 349, Value.int 186 0, Value.int 0 0, Value.ref 356, Value.int 188 0, Value.int 0 0, Value.ref 363, Value.int 194 0, Value.int 0 0, Value.ref 370, Value.int 196 0, Value.int 0 0, Value.ref 377, Value.int 198 0, Value.int 0 0, Value.ref 384, Value.int 213 0, Value.int 0 0, Value.ref 391, Value.int 221 0, Value.int 0 0, Value.ref 412, Value.int 228 0, Value.int 0 0, Value.ref 417, Value.int 232 0, Value.int 0 0, Value.ref 424, Value.int 243 0, Value.int 0 0, Value.ref 431, Value.int 260 0, Value.int 0 0, Value.ref 436]) #[]) (BT.node (Obj.mk (Value.type "code") Option.none (Data.fields #[Value.str (Str.ofString "Code") 194, Value.str (Str.ofString "Code") 195, Value.str (Str.ofString "/claim/cut.py") 196, Value.int 3 0, Value.int 0 0, Value.int 0 0, Value.int 0 0, Value.int 0 0, Value.ref 18, Value.bool Bool.false, Value.int 181 0, Value.ref 19, Value.none, Value.none, Value.none, Value.none, Value.int 197 0, Value.int 3 0, Value.str (Str.ofString "/claim/cut.py") 198]) #[]) (BT.node (Obj.mk (Value.type "tuple") Option.none (Data.seq #[Value.str (Str.ofString "begins") 220, Value.str (Str.ofString "ops") 221] 0) #[]) (BT.node (Obj.mk (Value.type "tuple") Option.none (Data.seq #[Value.ref 67] 0) #[]) (BT.node (Obj.mk (Value.type "tuple") Option.none (Data.seq #[Value.int 0 357] 0) #[]) (BT.node (Obj.mk (Value.type "tuple") Option.none (Data.seq #[] 0) #[]) BT.nil BT.nil) (BT.node (Obj.mk (Value.type "dict") Option.none (Data.dict #[DictEntry.mk (PyData.keyHash P (Str.ofString "__module__")) (Value.str (Str.ofString "__module__") 699) (Value.str (Str.ofString "ledgerspeak.runner") 690), DictEntry.mk (PyData.keyHash P (Str.ofString "__qualname__")) (Value.str (Str.ofString "__qualname__") 701) (Value.str (Str.ofString "Deeds") 700), DictEntry.mk (PyData.keyHash P (Str.ofString "__firstlineno__")) (Value.str (Str.ofString "__firstlineno__") 703) (Value.int 213 702), DictEntry.mk (PyData.keyHash P (Str.ofString "__init__")) (Value.str (Str.ofString "__init__") 714) (Value.ref 399), DictEntry.mk (PyData.keyHash P (Str.ofString "__static_attributes__")) (Value.str (Str.ofString "__static_attributes__") 719) (Value.ref 400)] 5) #[]) BT.nil BT.nil)) (BT.node (Obj.mk (Value.type "function") Option.none (Data.func (FuncData.mk (Str.ofString "power") (Str.ofString "power") aP34 (FuncBody.stmts aB34) aS34 3 [] Value.none Value.none Value.none (Value.str (Str.ofString "ledgerspeak.decimals") 341) Option.none (Value.ref 195) Value.none 0)) #[]) (BT.node (Obj.mk Value.none Option.none (Data.fields #[]) #[]) BT.nil BT.nil) BT.nil)) (BT.node (Obj.mk (Value.type "builtin_function_or_method") Option.none (Data.fields #[Value.builtin "object.__init_subclass__", Value.ref 98]) #[]) (BT.node (Obj.mk (Value.type "tuple") Option.none (Data.seq #[] 0) #[]) (BT.node (Obj.mk Value.none Option.none (Data.func (FuncData.mk (Str.ofString "do_reckon") (Str.ofString "do_reckon") aP50 (FuncBody.stmts aB50) aS50 0 [] Value.none Value.none Value.none Value.none Option.none Value.none Value.none 0)) #[]) BT.nil BT.nil) (BT.node (Obj.mk Value.none Option.none (Data.fields #[]) #[]) BT.nil BT.nil)) (BT.node (Obj.mk (Value.type "tuple") Option.none (Data.seq #[] 0) #[]) (BT.node (Obj.mk (Value.type "code") Option.none (Data.fields #[Value.str (Str.ofString "do_count") 646, Value.str (Str.ofString "do_count") 647, Value.str (Str.ofString "/claim/cut.py") 648, Value.int 186 0, Value.int 2 0, Value.int 0 0, Value.int 0 0, Value.int 3 0, Value.ref 351, Value.bool Bool.true, Value.int 181 0, Value.ref 352, Value.none, Value.ref 353, Value.ref 354, Value.ref 355, Value.int 651 0, Value.int 186 0, Value.str (Str.ofString "/claim/cut.py") 652]) #[]) BT.nil BT.nil) BT.nil))) (BT.node (Obj.mk Value.none Option.none (Data.func (FuncData.mk (Str.ofString "relabelled") (Str.ofString "relabelled") aP9 (FuncBody.stmts aB9) aS9 0 [] Value.none Value.none Value.none Value.none Option.none Value.none Value.none 0)) #[]) (BT.node (Obj.mk (Value.type "dict") Option.none (Data.dict #[DictEntry.mk (PyData.keyHash P (Str.ofString "__module__")) (Value.str (Str.ofString "__module__") 260) (Value.str (Str.ofString "ledgerspeak.errors") 251), DictEntry.mk (PyData.keyHash P (Str.ofString "__firstlineno__")) (Value.str (Str.ofString "__firstlineno__") 264) (Value.int 41 263), DictEntry.mk (PyData.keyHash P (Str.ofString "__init__")) (Value.str (Str.ofString "__init__") 275) (Value.ref 75), DictEntry.mk (PyData.keyHash P (Str.ofString "told")) (Value.str (Str.ofString "told") 282) (Value.ref 82), DictEntry.mk (PyData.keyHash P (Str.ofString "__static_attributes__")) (Value.str (Str.ofString "__static_attributes__") 285) (Value.ref 83), DictEntry.mk (PyData.keyHash P (Str.ofString "__weakref__")) (Value.str (Str.ofString "__weakref__") 287) (Value.ref 86), DictEntry.mk (PyData.keyHash P (Str.ofString "__doc__")) (Value.str (Str.ofString "__doc__") 288) Value.none] 3) #[]) (BT.node (Obj.mk Value.none Option.none (Data.fields #[]) #[]) (BT.node (Obj.mk (Value.type "tuple") Option.none (Data.seq #[Value.str (Str.ofString "sign") 558, Value.str (Str.ofString "a") 559, Value.str (Str.ofString "b") 560] 0) #[]) BT.nil BT.nil) (BT.node (Obj.mk (Value.type "getset_descriptor") Option.none (Data.fields #[Value.str (Str.ofString "__weakref__") 722, Value.ref 402, Value.builtin "ExceptionGroup.__weakref__", Value.none]) #[]) BT.nil BT.nil)) (BT.node (Obj.mk Value.none Option.none (Data.fields #[]) #[]) (BT.node (Obj.mk (Value.type "tuple") Option.none (Data.seq #[] 0) #[]) BT.nil BT.nil) BT.nil)) (BT.node (Obj.mk (Value.type "tuple") Option.none (Data.seq #[] 0) #[]) (BT.node (Obj.mk (Value.type "code") Option.none (Data.fields #[Value.str (Str.ofString "negated") 413, Value.str (Str.ofString "negated") 414, Value.str (Str.ofString "/claim/cut.py") 415, Value.int 89 0, Value.int 1 0, Value.int 0 0, Value.int 0 0, Value.int 3 0, Value.ref 175, Value.bool Bool.true, Value.int 181 0, Value.ref 176, Value.none, Value.ref 177, Value.ref 178, Value.ref 179, Value.int 417 0, Value.int 89 0, Value.str (Str.ofString "/claim/cut.py") 418]) #[]) (BT.node (Obj.mk (Value.type "function") Option.none (Data.func (FuncData.mk (Str.ofString "do_deed") (Str.ofString "do_deed") aP81 (FuncBody.stmts aB81) aS44 3 [] Value.none Value.none Value.none (Value.str (Str.ofString "ledgerspeak.machine") 472) Option.none (Value.ref 307) Value.none 0)) #[]) BT.nil BT.nil) (BT.node (Obj.mk (Value.type "code") Option.none (Data.fields #[Value.str (Str.ofString "law") 776, Value.str (Str.ofString "law") 777, Value.str (Str.ofString "/claim/cut.py") 778, Value.int 260 0, Value.int 1 0, Value.int 0 0, Value.int 0 0, Value.int 3 0, Value.ref 433, Value.bool Bool.true, Value.int 181 0, Value.ref 434, Value.none, Value.none, Value.none, Value.ref 435, Value.int 779 0, Value.int 260 0, Value.str (Str.ofString "/claim/cut.py") 780]) #[]) BT.nil BT.nil)) (BT.node (Obj.mk (Value.type "super") Option.none (Data.fields #[Value.ref 241, Value.ref 241, Value.ref 241]) #[]) (BT.node (Obj.mk (Value.type "tuple") Option.none (Data.seq #[] 0) #[]) BT.nil BT.nil) BT.nil)))) (BT.node (Obj.mk (Value.type "function") Option.none (Data.func (FuncData.mk (Str.ofString "__init__") (Str.ofString "Code.__init__") aP10 (FuncBody.stmts aB10) aS10 3 [] Value.none Value.none Value.none (Value.str (Str.ofString "ledgerspeak.codes") 187) Option.none (Value.ref 27) Value.none 0)) #[]) (BT.node (Obj.mk Value.none Option.none (Data.fields #[]) #[]) (BT.node (Obj.mk (Value.type "tuple") Option.none (Data.seq #[] 0) #[]) (BT.node (Obj.mk (Value.type "tuple") Option.none (Data.seq #[] 0) #[]) (BT.node (Obj.mk (Value.type "dict") Option.none (Data.dict #[DictEntry.mk (PyData.keyHash P (Str.ofString "__module__")) (Value.str (Str.ofString "__module__") 518) (Value.str (Str.ofString "ledgerspeak.machine") 472), DictEntry.mk (PyData.keyHash P (Str.ofString "__firstlineno__")) (Value.str (Str.ofString "__firstlineno__") 522) (Value.int 127 521), DictEntry.mk (PyData.keyHash P (Str.ofString "__init__")) (Value.str (Str.ofString "__init__") 531) (Value.ref 259), DictEntry.mk (PyData.keyHash P (Str.ofString "give_up")) (Value.str (Str.ofString "give_up") 539) (Value.ref 266), DictEntry.mk (PyData.keyHash P (Str.ofString "__static_attributes__")) (Value.str (Str.ofString "__static_attributes__") 547) (Value.ref 267), DictEntry.mk (PyData.keyHash P (Str.ofString "__dict__")) (Value.str (Str.ofString "__dict__") 549) (Value.ref 270), DictEntry.mk (PyData.keyHash P (Str.ofString "__weakref__")) (Value.str (Str.ofString "__weakref__") 551) (Value.ref 271), DictEntry.mk (PyData.keyHash P (Str.ofString "__doc__")) (Value.str (Str.ofString "__doc__") 552) Value.none] 4) #[]) BT.nil BT.nil) (BT.node (Obj.mk (Value.type "tuple") Option.none (Data.seq #[] 0) #[]) BT.nil BT.nil)) (BT.node (Obj.mk (Value.type "tuple") Option.none (Data.seq #[] 0) #[]) (BT.node (Obj.mk (Value.type "tuple") Option.none (Data.seq #[Value.str (Str.ofString "machine") 624, Value.str (Str.ofString "op") 625, Value.str (Str.ofString "worth") 626] 0) #[]) BT.nil BT.nil) BT.nil)) (BT.node (Obj.mk (Value.type "tuple") Option.none (Data.seq #[] 0) #[]) (BT.node (Obj.mk Value.none Option.none (Data.func (FuncData.mk (Str.ofString "times") (Str.ofString "times") aP35 (FuncBody.stmts aB35) aS35 0 [] Value.none Value.none Value.none Value.none Option.none Value.none Value.none 0)) #[]) (BT.node (Obj.mk (Value.type "code") Option.none (Data.fields #[Value.str (Str.ofString "do_put") 581, Value.str (Str.ofString "do_put") 582, Value.str (Str.ofString "/claim/cut.py") 583, Value.int 161 0, Value.int 2 0, Value.int 0 0, Value.int 0 0, Value.int 3 0, Value.ref 295, Value.bool Bool.true, Value.int 181 0, Value.ref 296, Value.none, Value.ref 297, Value.ref 298, Value.ref 299, Value.int 586 0, Value.int 161 0, Value.str (Str.ofString "/claim/cut.py") 587]) #[]) BT.nil BT.nil) (BT.node (Obj.mk (Value.type "tuple") Option.none (Data.seq #[Value.str (Str.ofString "ops") 761, Value.str (Str.ofString "cells") 762, Value.str (Str.ofString "whole") 763, Value.str (Str.ofString "cut") 764, Value.str (Str.ofString "place") 765, Value.str (Str.ofString "op") 766, Value.str (Str.ofString "left") 767, Value.str (Str.ofString "heads") 768, Value.str (Str.ofString "end") 769, Value.str (Str.ofString "done") 770, Value.str (Str.ofString "other") 771, Value.str (Str.ofString "others") 772] 0) #[]) BT.nil BT.nil)) (BT.node (Obj.mk Value.none Option.none (Data.func (FuncData.mk (Str.ofString "__init__") (Str.ofString "Frame.__init__") aP51 (FuncBody.stmts aB51) aS51 0 [] Value.none Value.none Value.none Value.none Option.none Value.none Value.none 0)) #[]) (BT.node (Obj.mk (Value.type "function") Option.none (Data.func (FuncData.mk (Str.ofString "do_less") (Str.ofString "do_less") aP82 (FuncBody.stmts aB82) aS82 3 [] Value.none Value.none Value.none (Value.str (Str.ofString "ledgerspeak.machine") 472) Option.none (Value.ref 363) Value.none 0)) #[]) BT.nil BT.nil) BT.nil))) (BT.node (Obj.mk (Value.type "tuple") Option.none (Data.seq #[Value.type "Exception"] 0) #[]) (BT.node (Obj.mk (Value.type "tuple") Option.none (Data.seq #[] 0) #[]) (BT.node (Obj.mk (Value.type "tuple") Option.none (Data.seq #[Value.str (Str.ofString "a") 386, Value.str (Str.ofString "b") 387, Value.str (Str.ofString "first") 388, Value.str (Str.ofString "second") 389, Value.str (Str.ofString "scale") 390] 0) #[]) (BT.node (Obj.mk (Value.type "tuple") Option.none (Data.seq #[] 0) #[]) BT.nil BT.nil) (BT.node (Obj.mk (Value.type "code") Option.none (Data.fields #[Value.str (Str.ofString "_law_draw") 729, Value.str (Str.ofString "_law_draw") 730, Value.str (Str.ofString "/claim/cut.py") 731, Value.int 221 0, Value.int 2 0, Value.int 0 0, Value.int 0 0, Value.int 3 0, Value.ref 407, Value.bool Bool.true, Value.int 181 0, Value.ref 408, Value.none, Value.ref 409, Value.ref 410, Value.ref 411, Value.int 737 0, Value.int 221 0, Value.str (Str.ofString "/claim/cut.py") 738]) #[]) BT.nil BT.nil)) (BT.node (Obj.mk (Value.type "tuple") Option.none (Data.seq #[Value.str (Str.ofString "units") 467, Value.str (Str.ofString "digits") 468] 0) #[]) (BT.node (Obj.mk Value.none Option.none (Data.func (FuncData.mk (Str.ofString "leave_frame") (Str.ofString "leave_frame") aP83 (FuncBody.stmts aB83) aS44 0 [] Value.none Value.none Value.none Value.none Option.none Value.none Value.none 0)) #[]) BT.nil BT.nil) BT.nil)) (BT.node (Obj.mk (Value.type "builtin_function_or_method") Option.none (Data.fields #[Value.builtin "object.__init_subclass__", Value.ref 122]) #[]) (BT.node (Obj.mk (Value.type "code") Option.none (Data.fields #[Value.str (Str.ofString "quotient") 420, Value.str (Str.ofString "quotient") 421, Value.str (Str.ofString "/claim/cut.py") 422, Value.int 91 0, Value.int 3 0, Value.int 0 0, Value.int 0 0, Value.int 3 0, Value.ref 183, Value.bool Bool.true, Value.int 181 0, Value.ref 184, Value.none, Value.ref 185, Value.ref 186, Value.ref 187, Value.int 426 0, Value.int 91 0, Value.str (Str.ofString "/claim/cut.py") 427]) #[]) (BT.node (Obj.mk (Value.type "tuple") Option.none (Data.seq #[] 0) #[]) BT.nil BT.nil) BT.nil) (BT.node (Obj.mk (Value.type "frame") Option.none Data.plain #[Option.some (Value.ref 251), Option.some (Value.ref 3), Option.some (Value.ref 248), Option.none, Option.some (Value.str (Str.ofString "ledgerspeak.machine") 472), Option.none, Option.some (Value.ref 0)]) (BT.node (Obj.mk Value.none Option.none (Data.fields #[]) #[]) BT.nil BT.nil) BT.nil)))))) (BT.node (boot_o_6 P) (BT.node (boot_o_10 P) (BT.node (Obj.mk (Value.type "tuple") Option.none (Data.seq #[] 0) #[]) (BT.node (Obj.mk (Value.type "code") Option.none (Data.fields #[Value.str (Str.ofString "told") 213, Value.str (Str.ofString "Code.told") 214, Value.str (Str.ofString "/claim/cut.py") 215, Value.int 9 0, Value.int 1 0, Value.int 0 0, Value.int 0 0, Value.int 3 0, Value.ref 29, Value.bool Bool.true, Value.int 181 0, Value.ref 30, Value.none, Value.ref 31, Value.ref 32, Value.ref 33, Value.int 217 0, Value.int 9 0, Value.str (Str.ofString "/claim/cut.py") 218]) #[]) (BT.node (Obj.mk (Value.type "frame") Option.none Data.plain #[Option.some (Value.ref 65), Option.some (Value.ref 3), Option.some (Value.ref 62), Option.none, Option.some (Value.str (Str.ofString "ledgerspeak.errors") 251), Option.none, Option.some (Value.ref 0)]) (BT.node (Obj.mk (Value.type "code") Option.none (Data.fields #[Value.str (Str.ofString "cut_quotient") 349, Value.str (Str.ofString "cut_quotient") 350, Value.str (Str.ofString "/claim/cut.py") 351, Value.int 60 0, Value.int 2 0, Value.int 0 0, Value.int 0 0, Value.int 3 0, Value.ref 125, Value.bool Bool.true, Value.int 181 0, Value.ref 126, Value.none, Value.ref 127, Value.ref 128, Value.ref 129, Value.int 354 0, Value.int 60 0, Value.str (Str.ofString "/claim/cut.py") 355]) #[]) (BT.node (Obj.mk (Value.type "code") Option.none (Data.fields #[Value.str (Str.ofString "__init__") 523, Value.str (Str.ofString "Machine.__init__") 524, Value.str (Str.ofString "/claim/cut.py") 525, Value.int 129 0, Value.int 3 0, Value.int 0 0, Value.int 0 0, Value.int 3 0, Value.ref 253, Value.bool Bool.true, Value.int 181 0, Value.ref 254, Value.none, Value.ref 255, Value.ref 256, Value.ref 257, Value.int 529 0, Value.int 129 0, Value.str (Str.ofString "/claim/cut.py") 530]) #[]) BT.nil BT.nil) (BT.node (Obj.mk (Value.type "tuple") Option.none (Data.seq #[] 0) #[]) BT.nil BT.nil)) (BT.node (Obj.mk Value.none Option.none (Data.func (FuncData.mk (Str.ofString "power") (Str.ofString "power") aP34 (FuncBody.stmts aB34) aS34 0 [] Value.none Value.none Value.none Value.none Option.none Value.none Value.none 0)) #[]) (BT.node (Obj.mk (Value.type "function") Option.none (Data.func (FuncData.mk (Str.ofString "do_test") (Str.ofString "do_test") aP76 (FuncBody.stmts aB76) aS44 3 [] Value.none Value.none Value.none (Value.str (Str.ofString "ledgerspeak.machine") 472) Option.none (Value.ref 321) Value.none 0)) #[]) BT.nil BT.nil) BT.nil)) (BT.node (Obj.mk (Value.type "type") Option.none (Data.cls (ClassData.mk (Str.ofString "RunFault") [Value.ref 85] [Value.ref 98, Value.ref 85, Value.type "Exception", Value.type "BaseException", Value.type "object"] 97 (Str.ofString "RunFault") Bool.true [] [] Bool.false Option.none Bool.false)) #[Option.some (Value.ref 89), Option.none, Option.some (Value.str (Str.ofString "RunFault") 293), Option.some (Value.str (Str.ofString "RunFault") 301), Option.some (Value.builtin "Exception.__new__"), Option.some (Value.bool Bool.true)]) (BT.node (Obj.mk Value.none Option.none (Data.fields #[]) #[]) (BT.node (Obj.mk (Value.type "tuple") Option.none (Data.seq #[Value.str (Str.ofString "machine") 576, Value.str (Str.ofString "op") 577] 0) #[]) BT.nil BT.nil) (BT.node (Obj.mk (Value.type "function") Option.none (Data.func (FuncData.mk (Str.ofString "_law_place") (Str.ofString "_law_place") aP77 (FuncBody.stmts aB77) aS77 3 [] Value.none Value.none Value.none (Value.str (Str.ofString "law_pb0246_01") 727) Option.none (Value.ref 417) Value.none 0)) #[]) BT.nil BT.nil)) (BT.node (Obj.mk (Value.type "builtin_function_or_method") Option.none (Data.fields #[Value.builtin "type.__prepare__", Value.type "type"]) #[]) (BT.node (Obj.mk (Value.type "tuple") Option.none (Data.seq #[] 0) #[]) BT.nil BT.nil) BT.nil))) (BT.node (Obj.mk (Value.type "tuple") Option.none (Data.seq #[] 0) #[]) (BT.node (Obj.mk (Value.type "function") Option.none (Data.func (FuncData.mk (Str.ofString "told") (Str.ofString "LedgerError.told") aP8 (FuncBody.stmts aB8) aS8 3 [] Value.none Value.none Value.none (Value.str (Str.ofString "ledgerspeak.errors") 251) Option.none (Value.ref 81) Value.none 0)) #[]) (BT.node (Obj.mk (Value.type "function") Option.none (Data.func (FuncData.mk (Str.ofString "kept") (Str.ofString "kept") aP32 (FuncBody.stmts aB32) aS32 3 [] Value.none Value.none Value.none (Value.str (Str.ofString "ledgerspeak.decimals") 341) Option.none (Value.ref 145) Value.none 0)) #[]) (BT.node (Obj.mk (Value.type "tuple") Option.none (Data.seq #[] 0) #[]) BT.nil BT.nil) (BT.node (Obj.mk (Value.type "type") Option.none (Data.cls (ClassData.mk (Str.ofString "Deeds") [Value.type "object"] [Value.ref 402, Value.type "object"] 401 (Str.ofString "Deeds") Bool.true [] [] Bool.false Option.none Bool.false)) #[Option.none, Option.none, Option.some (Value.str (Str.ofString "Deeds") 692), Option.some (Value.str (Str.ofString "Deeds") 700), Option.some (Value.builtin "object.__new__"), Option.some (Value.bool Bool.true)]) BT.nil BT.nil)) (BT.node (Obj.mk (Value.type "function") Option.none (Data.func (FuncData.mk (Str.ofString "is_whole") (Str.ofString "is_whole") aP33 (FuncBody.stmts aB33) aS18 3 [] Value.none Value.none Value.none (Value.str (Str.ofString "ledgerspeak.decimals") 341) Option.none (Value.ref 209) Value.none 0)) #[]) (BT.node (Obj.mk Value.none Option.none (Data.fields #[]) #[]) BT.nil BT.nil) BT.nil)) (BT.node (Obj.mk (Value.type "builtin_function_or_method") Option.none (Data.fields #[Value.builtin "type.__prepare__", Value.type "type"]) #[]) (BT.node (Obj.mk (Value.type "tuple") Option.none (Data.seq #[] 0) #[]) (BT.node (Obj.mk Value.none Option.none (Data.func (FuncData.mk (Str.ofString "do_deed") (Str.ofString "do_deed") aP81 (FuncBody.stmts aB81) aS44 0 [] Value.none Value.none Value.none Value.none Option.none Value.none Value.none 0)) #[]) BT.nil BT.nil) (BT.node (Obj.mk Value.none Option.none (Data.fields #[]) #[]) BT.nil BT.nil)) (BT.node (Obj.mk (Value.type "getset_descriptor") Option.none (Data.fields #[Value.str (Str.ofString "__dict__") 504, Value.ref 241, Value.builtin "function.__dict__", Value.builtin "function.__dict__#set"]) #[]) (BT.node (Obj.mk (Value.type "code") Option.none (Data.fields #[Value.str (Str.ofString "do_stop") 663, Value.str (Str.ofString "do_stop") 664, Value.str (Str.ofString "/claim/cut.py") 665, Value.int 194 0, Value.int 2 0, Value.int 0 0, Value.int 0 0, Value.int 3 0, Value.ref 365, Value.bool Bool.true, Value.int 181 0, Value.ref 366, Value.none, Value.ref 367, Value.ref 368, Value.ref 369, Value.int 668 0, Value.int 194 0, Value.str (Str.ofString "/claim/cut.py") 669]) #[]) BT.nil BT.nil) BT.nil)))) (BT.node (Obj.mk Value.none Option.none (Data.func (FuncData.mk (Str.ofString "__init__") (Str.ofString "Code.__init__") aP10 (FuncBody.stmts aB10) aS10 0 [] Value.none Value.none Value.none Value.none Option.none Value.none Value.none 0)) #[]) (BT.node (Obj.mk (Value.type "builtin_function_or_method") Option.none (Data.fields #[Value.builtin "object.__init_subclass__", Value.ref 38]) #[]) (BT.node (Obj.mk (Value.type "code") Option.none (Data.fields #[Value.str (Str.ofString "__init__") 267, Value.str (Str.ofString "LedgerError.__init__") 268, Value.str (Str.ofString "/claim/cut.py") 269, Value.int 43 0, Value.int 3 0, Value.int 0 0, Value.int 0 0, Value.int 3 0, Value.ref 69, Value.bool Bool.true, Value.int 181 0, Value.ref 70, Value.none, Value.ref 71, Value.ref 72, Value.ref 73, Value.int 273 0, Value.int 43 0, Value.str (Str.ofString "/claim/cut.py") 274]) #[]) (BT.node (Obj.mk (Value.type "code") Option.none (Data.fields #[Value.str (Str.ofString "decimal") 358, Value.str (Str.ofString "decimal") 359, Value.str (Str.ofString "/claim/cut.py") 360, Value.int 64 0, Value.int 2 0, Value.int 0 0, Value.int 0 0, Value.int 3 0, Value.ref 133, Value.bool Bool.true, Value.int 181 0, Value.ref 134, Value.none, Value.ref 135, Value.ref 136, Value.ref 137, Value.int 363 0, Value.int 64 0, Value.str (Str.ofString "/claim/cut.py") 364]) #[]) (BT.node (Obj.mk (Value.type "function") Option.none (Data.func (FuncData.mk (Str.ofString "give_up") (Str.ofString "Machine.give_up") aP48 (FuncBody.stmts aB48) aS48 3 [] Value.none Value.none Value.none (Value.str (Str.ofString "ledgerspeak.machine") 472) Option.none (Value.ref 265) Value.none 0)) #[]) BT.nil BT.nil) (BT.node (Obj.mk Value.none Option.none (Data.fields #[]) #[]) BT.nil BT.nil)) (BT.node (Obj.mk (Value.type "code") Option.none (Data.fields #[Value.str (Str.ofString "units_at") 439, Value.str (Str.ofString "units_at") 440, Value.str (Str.ofString "/claim/cut.py") 441, Value.int 104 0, Value.int 3 0, Value.int 0 0, Value.int 0 0, Value.int 3 0, Value.ref 197, Value.bool Bool.true, Value.int 181 0, Value.ref 198, Value.none, Value.ref 199, Value.ref 200, Value.ref 201, Value.int 447 0, Value.int 104 0, Value.str (Str.ofString "/claim/cut.py") 448]) #[]) (BT.node (Obj.mk (Value.type "tuple") Option.none (Data.seq #[] 0) #[]) BT.nil BT.nil) BT.nil)) (BT.node (Obj.mk (Value.type "code") Option.none (Data.fields #[Value.str (Str.ofString "SizeFault") 311, Value.str (Str.ofString "SizeFault") 312, Value.str (Str.ofString "/claim/cut.py") 313, Value.int 52 0, Value.int 0 0, Value.int 0 0, Value.int 0 0, Value.int 0 0, Value.ref 104, Value.bool Bool.false, Value.int 181 0, Value.ref 105, Value.none, Value.none, Value.none, Value.none, Value.int 314 0, Value.int 52 0, Value.str (Str.ofString "/claim/cut.py") 315]) #[]) (BT.node (Obj.mk (Value.type "tuple") Option.none (Data.seq #[Value.str (Str.ofString "a") 408, Value.str (Str.ofString "b") 409] 0) #[]) (BT.node (Obj.mk (Value.type "tuple") Option.none (Data.seq #[] 0) #[]) BT.nil BT.nil) (BT.node (Obj.mk (Value.type "tuple") Option.none (Data.seq #[] 0) #[]) BT.nil BT.nil)) (BT.node (Obj.mk (Value.type "tuple") Option.none (Data.seq #[Value.str (Str.ofString "self") 494, Value.str (Str.ofString "last") 495, Value.str (Str.ofString "behind") 496] 0) #[]) (BT.node (Obj.mk Value.none Option.none (Data.func (FuncData.mk (Str.ofString "do_less") (Str.ofString "do_less") aP82 (FuncBody.stmts aB82) aS82 0 [] Value.none Value.none Value.none Value.none Option.none Value.none Value.none 0)) #[]) BT.nil BT.nil) BT.nil))) (BT.node (Obj.mk (Value.type "code") Option.none (Data.fields #[Value.str (Str.ofString "pressed") 245, Value.str (Str.ofString "pressed") 246, Value.str (Str.ofString "/claim/cut.py") 247, Value.int 28 0, Value.int 2 0, Value.int 0 0, Value.int 0 0, Value.int 3 0, Value.ref 55, Value.bool Bool.true, Value.int 181 0, Value.ref 56, Value.none, Value.none, Value.none, Value.ref 57, Value.int 248 0, Value.int 28 0, Value.str (Str.ofString "/claim/cut.py") 249]) #[]) (BT.node (Obj.mk (Value.type "builtin_function_or_method") Option.none (Data.fields #[Value.builtin "type.__prepare__", Value.type "type"]) #[]) (BT.node (Obj.mk (Value.type "tuple") Option.none (Data.seq #[] 0) #[]) (BT.node (Obj.mk Value.none Option.none (Data.fields #[]) #[]) BT.nil BT.nil) (BT.node (Obj.mk (Value.type "tuple") Option.none (Data.seq #[] 0) #[]) BT.nil BT.nil)) (BT.node (Obj.mk (Value.type "tuple") Option.none (Data.seq #[] 0) #[]) (BT.node (Obj.mk (Value.type "tuple") Option.none (Data.seq #[Value.str (Str.ofString "machine") 641, Value.str (Str.ofString "op") 642] 0) #[]) BT.nil BT.nil) BT.nil)) (BT.node (Obj.mk (Value.type "type") Option.none (Data.cls (ClassData.mk (Str.ofString "StepFault") [Value.ref 85] [Value.ref 122, Value.ref 85, Value.type "Exception", Value.type "BaseException", Value.type "object"] 121 (Str.ofString "StepFault") Bool.true [] [] Bool.false Option.none Bool.false)) #[Option.some (Value.ref 113), Option.none, Option.some (Value.str (Str.ofString "StepFault") 325), Option.some (Value.str (Str.ofString "StepFault") 333), Option.some (Value.builtin "Exception.__new__"), Option.some (Value.bool Bool.true)]) (BT.node (Obj.mk (Value.type "tuple") Option.none (Data.seq #[] 0) #[]) (BT.node (Obj.mk (Value.type "code") Option.none (Data.fields #[Value.str (Str.ofString "do_key") 597, Value.str (Str.ofString "do_key") 598, Value.str (Str.ofString "/claim/cut.py") 599, Value.int 166 0, Value.int 2 0, Value.int 0 0, Value.int 0 0, Value.int 3 0, Value.ref 309, Value.bool Bool.true, Value.int 181 0, Value.ref 310, Value.none, Value.ref 311, Value.ref 312, Value.ref 313, Value.int 602 0, Value.int 166 0, Value.str (Str.ofString "/claim/cut.py") 603]) #[]) BT.nil BT.nil) BT.nil) (BT.node (Obj.mk Value.none Option.none (Data.fields #[Value.int 129 0, Value.int 4 0, Value.ref 258, Value.int 138 0, Value.int 4 0, Value.ref 265]) #[]) (BT.node (Obj.mk (Value.type "function") Option.none (Data.func (FuncData.mk (Str.ofString "op_table") (Str.ofString "op_table") aP80 (FuncBody.stmts aB80) aS80 3 [] Value.none Value.none Value.none (Value.str (Str.ofString "ledgerspeak.machine") 472) Option.none (Value.ref 377) Value.none 0)) #[]) BT.nil BT.nil) BT.nil))))) (BT.node (Obj.mk (Value.type "frame") Option.none Data.plain #[Option.some (Value.ref 13), Option.some (Value.ref 3), Option.some (Value.ref 3), Option.none, Option.some (Value.str (Str.ofString "__main__") 164), Option.none, Option.some (Value.ref 0)]) (BT.node (Obj.mk (Value.type "tuple") Option.none (Data.seq #[] 0) #[]) (BT.node (Obj.mk (Value.type "type") Option.none (Data.cls (ClassData.mk (Str.ofString "Code") [Value.type "object"] [Value.ref 38, Value.type "object"] 37 (Str.ofString "Code") Bool.true [] [] Bool.false Option.none Bool.false)) #[Option.none, Option.none, Option.some (Value.str (Str.ofString "Code") 192), Option.some (Value.str (Str.ofString "Code") 200), Option.some (Value.builtin "object.__new__"), Option.some (Value.bool Bool.true)]) (BT.node (Obj.mk Value.none Option.none (Data.fields #[]) #[]) (BT.node (Obj.mk Value.none Option.none (Data.fields #[]) #[]) (BT.node (Obj.mk (Value.type "tuple") Option.none (Data.seq #[Value.str (Str.ofString "self") 535, Value.str (Str.ofString "label") 536] 0) #[]) BT.nil BT.nil) (BT.node (Obj.mk Value.none Option.none (Data.fields #[Value.int 215 0, Value.int 4 0, Value.ref 398]) #[]) BT.nil BT.nil)) (BT.node (Obj.mk Value.none Option.none (Data.fields #[]) #[]) (BT.node (Obj.mk (Value.type "tuple") Option.none (Data.seq #[] 0) #[]) BT.nil BT.nil) BT.nil)) (BT.node (Obj.mk (Value.type "builtin_function_or_method") Option.none (Data.fields #[Value.builtin "type.__prepare__", Value.type "type"]) #[]) (BT.node (Obj.mk (Value.type "code") Option.none (Data.fields #[Value.str (Str.ofString "minus") 394, Value.str (Str.ofString "minus") 395, Value.str (Str.ofString "/claim/cut.py") 396, Value.int 84 0, Value.int 2 0, Value.int 0 0, Value.int 0 0, Value.int 3 0, Value.ref 161, Value.bool Bool.true, Value.int 181 0, Value.ref 162, Value.none, Value.ref 163, Value.ref 164, Value.ref 165, Value.int 402 0, Value.int 84 0, Value.str (Str.ofString "/claim/cut.py") 403]) #[]) (BT.node (Obj.mk (Value.type "function") Option.none (Data.func (FuncData.mk (Str.ofString "do_reckon") (Str.ofString "do_reckon") aP50 (FuncBody.stmts aB50) aS50 3 [] Value.none Value.none Value.none (Value.str (Str.ofString "ledgerspeak.machine") 472) Option.none (Value.ref 293) Value.none 0)) #[]) BT.nil BT.nil) (BT.node (Obj.mk (Value.type "tuple") Option.none (Data.seq #[Value.str (Str.ofString "cells") 753, Value.str (Str.ofString "done") 754] 0) #[]) BT.nil BT.nil)) (BT.node (Obj.mk (Value.type "code") Option.none (Data.fields #[Value.str (Str.ofString "Frame") 481, Value.str (Str.ofString "Frame") 482, Value.str (Str.ofString "/claim/cut.py") 483, Value.int 121 0, Value.int 0 0, Value.int 0 0, Value.int 0 0, Value.int 0 0, Value.ref 228, Value.bool Bool.false, Value.int 181 0, Value.ref 229, Value.none, Value.none, Value.none, Value.none, Value.int 484 0, Value.int 121 0, Value.str (Str.ofString "/claim/cut.py") 485]) #[]) (BT.node (Obj.mk (Value.type "tuple") Option.none (Data.seq #[] 0) #[]) BT.nil BT.nil) BT.nil))) (BT.node (Obj.mk (Value.type "function") Option.none (Data.func (FuncData.mk (Str.ofString "relabelled") (Str.ofString "relabelled") aP9 (FuncBody.stmts aB9) aS9 3 [] Value.none Value.none Value.none (Value.str (Str.ofString "ledgerspeak.codes") 187) Option.none (Value.ref 53) Value.none 0)) #[]) (BT.node (Obj.mk (Value.type "getset_descriptor") Option.none (Data.fields #[Value.str (Str.ofString "__weakref__") 286, Value.ref 85, Value.builtin "ExceptionGroup.__weakref__", Value.none]) #[]) (BT.node (Obj.mk (Value.type "tuple") Option.none (Data.seq #[] 0) #[]) (BT.node (Obj.mk Value.none Option.none (Data.func (FuncData.mk (Str.ofString "calculated") (Str.ofString "calculated") aP49 (FuncBody.stmts aB49) aS49 0 [] Value.none Value.none Value.none Value.none Option.none Value.none Value.none 0)) #[]) BT.nil BT.nil) (BT.node (Obj.mk (Value.type "builtin_function_or_method") Option.none (Data.fields #[Value.builtin "object.__init_subclass__", Value.ref 402]) #[]) BT.nil BT.nil)) (BT.node (Obj.mk (Value.type "tuple") Option.none (Data.seq #[] 0) #[]) (BT.node (Obj.mk (Value.type "code") Option.none (Data.fields #[Value.str (Str.ofString "begin_frame") 630, Value.str (Str.ofString "begin_frame") 631, Value.str (Str.ofString "/claim/cut.py") 632, Value.int 178 0, Value.int 2 0, Value.int 0 0, Value.int 0 0, Value.int 3 0, Value.ref 337, Value.bool Bool.true, Value.int 181 0, Value.ref 338, Value.none, Value.ref 339, Value.ref 340, Value.ref 341, Value.int 635 0, Value.int 178 0, Value.str (Str.ofString "/claim/cut.py") 636]) #[]) BT.nil BT.nil) BT.nil)) (BT.node (Obj.mk (Value.type "code") Option.none (Data.fields #[Value.str (Str.ofString "StepFault") 327, Value.str (Str.ofString "StepFault") 328, Value.str (Str.ofString "/claim/cut.py") 329, Value.int 54 0, Value.int 0 0, Value.int 0 0, Value.int 0 0, Value.int 0 0, Value.ref 116, Value.bool Bool.false, Value.int 181 0, Value.ref 117, Value.none, Value.none, Value.none, Value.none, Value.int 330 0, Value.int 54 0, Value.str (Str.ofString "/claim/cut.py") 331]) #[]) (BT.node (Obj.mk (Value.type "tuple") Option.none (Data.seq #[Value.int 30 343] 0) #[]) (BT.node (Obj.mk Value.none Option.none (Data.fields #[]) #[]) BT.nil BT.nil) BT.nil) (BT.node (Obj.mk (Value.type "tuple") Option.none (Data.seq #[] 0) #[]) (BT.node (Obj.mk (Value.type "tuple") Option.none (Data.seq #[] 0) #[]) BT.nil BT.nil) BT.nil)))) (BT.node (Obj.mk Value.none Option.none (Data.fields #[]) #[]) (BT.node (Obj.mk (Value.type "tuple") Option.none (Data.seq #[] 0) #[]) (BT.node (Obj.mk (Value.type "tuple") Option.none (Data.seq #[Value.str (Str.ofString "self") 279] 0) #[]) (BT.node (Obj.mk (Value.type "tuple") Option.none (Data.seq #[Value.str (Str.ofString "units") 369, Value.str (Str.ofString "scale") 370] 0) #[]) (BT.node (Obj.mk (Value.type "getset_descriptor") Option.none (Data.fields #[Value.str (Str.ofString "__dict__") 548, Value.ref 269, Value.builtin "function.__dict__", Value.builtin "function.__dict__#set"]) #[]) BT.nil BT.nil) (BT.node (Obj.mk (Value.type "code") Option.none (Data.fields #[Value.str (Str.ofString "__init__") 704, Value.str (Str.ofString "Deeds.__init__") 705, Value.str (Str.ofString "/claim/cut.py") 706, Value.int 215 0, Value.int 5 0, Value.int 0 0, Value.int 0 0, Value.int 3 0, Value.ref 393, Value.bool Bool.true, Value.int 181 0, Value.ref 394, Value.none, Value.ref 395, Value.ref 396, Value.ref 397, Value.int 712 0, Value.int 215 0, Value.str (Str.ofString "/claim/cut.py") 713]) #[]) BT.nil BT.nil)) (BT.node (Obj.mk (Value.type "tuple") Option.none (Data.seq #[Value.str (Str.ofString "a") 453] 0) #[]) (BT.node (Obj.mk Value.none Option.none (Data.func (FuncData.mk (Str.ofString "do_choose") (Str.ofString "do_choose") aP78 (FuncBody.stmts aB78) aS78 0 [] Value.none Value.none Value.none Value.none Option.none Value.none Value.none 0)) #[]) BT.nil BT.nil) BT.nil)) (BT.node (Obj.mk (Value.type "type") Option.none (Data.cls (ClassData.mk (Str.ofString "SizeFault") [Value.ref 85] [Value.ref 110, Value.ref 85, Value.type "Exception", Value.type "BaseException", Value.type "object"] 109 (Str.ofString "SizeFault") Bool.true [] [] Bool.false Option.none Bool.false)) #[Option.some (Value.ref 101), Option.none, Option.some (Value.str (Str.ofString "SizeFault") 309), Option.some (Value.str (Str.ofString "SizeFault") 317), Option.some (Value.builtin "Exception.__new__"), Option.some (Value.bool Bool.true)]) (BT.node (Obj.mk (Value.type "function") Option.none (Data.func (FuncData.mk (Str.ofString "times") (Str.ofString "times") aP35 (FuncBody.stmts aB35) aS35 3 [] Value.none Value.none Value.none (Value.str (Str.ofString "ledgerspeak.decimals") 341) Option.none (Value.ref 173) Value.none 0)) #[]) (BT.node (Obj.mk (Value.type "tuple") Option.none (Data.seq #[] 0) #[]) BT.nil BT.nil) (BT.node (Obj.mk Value.none Option.none (Data.func (FuncData.mk (Str.ofString "_law_runs_alike") (Str.ofString "_law_runs_alike") aP79 (FuncBody.stmts aB79) aS79 0 [] Value.none Value.none Value.none Value.none Option.none Value.none Value.none 0)) #[]) BT.nil BT.nil)) (BT.node (Obj.mk (Value.type "function") Option.none (Data.func (FuncData.mk (Str.ofString "__init__") (Str.ofString "Frame.__init__") aP51 (FuncBody.stmts aB51) aS51 3 [] Value.none Value.none Value.none (Value.str (Str.ofString "ledgerspeak.machine") 472) Option.none (Value.ref 237) Value.none 0)) #[]) (BT.node (Obj.mk Value.none Option.none (Data.fields #[]) #[]) BT.nil BT.nil) BT.nil))) (BT.node (Obj.mk (Value.type "dict") Option.none (Data.dict #[DictEntry.mk (PyData.keyHash P (Str.ofString "__module__")) (Value.str (Str.ofString "__module__") 260) (Value.str (Str.ofString "ledgerspeak.errors") 251), DictEntry.mk (PyData.keyHash P (Str.ofString "__qualname__")) (Value.str (Str.ofString "__qualname__") 262) (Value.str (Str.ofString "LedgerError") 261), DictEntry.mk (PyData.keyHash P (Str.ofString "__firstlineno__")) (Value.str (Str.ofString "__firstlineno__") 264) (Value.int 41 263), DictEntry.mk (PyData.keyHash P (Str.ofString "__init__")) (Value.str (Str.ofString "__init__") 275) (Value.ref 75), DictEntry.mk (PyData.keyHash P (Str.ofString "told")) (Value.str (Str.ofString "told") 282) (Value.ref 82), DictEntry.mk (PyData.keyHash P (Str.ofString "__static_attributes__")) (Value.str (Str.ofString "__static_attributes__") 285) (Value.ref 83)] 6) #[]) (BT.node (Obj.mk (Value.type "code") Option.none (Data.fields #[Value.str (Str.ofString "RunFault") 295, Value.str (Str.ofString "RunFault") 296, Value.str (Str.ofString "/claim/cut.py") 297, Value.int 50 0, Value.int 0 0, Value.int 0 0, Value.int 0 0, Value.int 0 0, Value.ref 92, Value.bool Bool.false, Value.int 181 0, Value.ref 93, Value.none, Value.none, Value.none, Value.none, Value.int 298 0, Value.int 50 0, Value.str (Str.ofString "/claim/cut.py") 299]) #[]) (BT.node (Obj.mk Value.none Option.none (Data.func (FuncData.mk (Str.ofString "plus") (Str.ofString "plus") aP30 (FuncBody.stmts aB30) aS14 0 [] Value.none Value.none Value.none Value.none Option.none Value.none Value.none 0)) #[]) (BT.node (Obj.mk (Value.type "code") Option.none (Data.fields #[Value.str (Str.ofString "worth_by") 564, Value.str (Str.ofString "worth_by") 565, Value.str (Str.ofString "/claim/cut.py") 566, Value.int 149 0, Value.int 2 0, Value.int 0 0, Value.int 0 0, Value.int 3 0, Value.ref 281, Value.bool Bool.true, Value.int 181 0, Value.ref 282, Value.none, Value.ref 283, Value.ref 284, Value.ref 285, Value.int 570 0, Value.int 149 0, Value.str (Str.ofString "/claim/cut.py") 571]) #[]) BT.nil BT.nil) (BT.node (Obj.mk (Value.type "tuple") Option.none (Data.seq #[] 0) #[]) BT.nil BT.nil)) (BT.node (Obj.mk Value.none Option.none (Data.func (FuncData.mk (Str.ofString "fits") (Str.ofString "fits") aP31 (FuncBody.stmts aB31) aS31 0 [] Value.none Value.none Value.none Value.none Option.none Value.none Value.none 0)) #[]) (BT.node (Obj.mk (Value.type "function") Option.none (Data.func (FuncData.mk (Str.ofString "leave_frame") (Str.ofString "leave_frame") aP83 (FuncBody.stmts aB83) aS44 3 [] Value.none Value.none Value.none (Value.str (Str.ofString "ledgerspeak.machine") 472) Option.none (Value.ref 349) Value.none 0)) #[]) BT.nil BT.nil) BT.nil)) (BT.node (Obj.mk Value.none Option.none (Data.fields #[]) #[]) (BT.node (Obj.mk (Value.type "tuple") Option.none (Data.seq #[] 0) #[]) (BT.node (Obj.mk (Value.type "tuple") Option.none (Data.seq #[Value.str (Str.ofString "machine") 608, Value.str (Str.ofString "op") 609] 0) #[]) BT.nil BT.nil) BT.nil) (BT.node (Obj.mk Value.none Option.none (Data.fields #[]) #[]) (BT.node (Obj.mk (Value.type "tuple") Option.none (Data.seq #[] 0) #[]) BT.nil BT.nil) BT.nil)))))))
noncomputable def heap_46 (P : Params) : Heap := Heap.mk (Array.mk [boot_o_0 P, boot_o_1 P, boot_o_2 P, boot_o_3 P, boot_o_4 P, boot_o_5 P, boot_o_6 P, boot_o_7 P, boot_o_8 P, boot_o_9 P, boot_o_10 P, Obj.mk (Value.type "tuple") Option.none (Data.seq #[] 0) #[], Obj.mk Value.none Option.none (Data.fields #[]) #[], Obj.mk (Value.type "code") Option.none (Data.fields #[Value.str (Str.ofString "<module>") 182, Value.str (Str.ofString "<module>") 183, Value.str (Str.ofString "/claim/cut.py") 184, Value.int 1 0, Value.int 0 0, Value.int 0 0, Value.int 0 0, Value.int 0 0, Value.ref 11, Value.bool Bool.false, Value.int 181 0, Value.ref 12, Value.none, Value.none, Value.none, Value.none, Value.int 185 0, Value.int 1 0, Value.str (Str.ofString "/claim/cut.py") 186]) #[], Obj.mk (Value.type "frame") Option.none Data.plain #[Option.some (Value.ref 13), Option.some (Value.ref 3), Option.some (Value.ref 3), Option.none, Option.some (Value.str (Str.ofString "__main__") 164), Option.none, Option.some (Value.ref 0)]]) (Life.mk [] [] [] 0 [] [] Bool.false #[] [] 0 Bool.false Bool.false Bool.false 0 [2000, 10, 10] Bool.false 0 Bool.true [] [] 0 Bool.false)
noncomputable def heap_496 (P : Params) : Heap := Heap.mk (Array.mk (boot_o_0 P :: boot_o_1 P :: Obj.mk Value.none Option.none (Data.dict #[DictEntry.mk (PyData.keyHash P (Str.ofString "type.__subclasses__.Exception.0")) (Value.str (Str.ofString "type.__subclasses__.Exception.0") 289) (Value.int 85 0), DictEntry.mk (PyData.keyHash P (Str.ofString "type.__subclasses__.Exception.n")) (Value.str (Str.ofString "type.__subclasses__.Exception.n") 290) (Value.int 1 0)] 2) #[] :: Obj.mk (Value.type "dict") Option.none (Data.dict #[DictEntry.mk (PyData.keyHash P (Str.ofString "__name__")) (Value.str (Str.ofString "__name__") 165) (Value.str (Str.ofString "law_pb0246_01") 727), DictEntry.mk (PyData.keyHash P (Str.ofString "__doc__")) (Value.str (Str.ofString "__doc__") 166) Value.none, DictEntry.mk (PyData.keyHash P (Str.ofString "__package__")) (Value.str (Str.ofString "__package__") 167) Value.none, DictEntry.mk (PyData.keyHash P (Str.ofString "__loader__")) (Value.str (Str.ofString "__loader__") 168) (Value.builtin "__main__.__loader__#opaque"), DictEntry.mk (PyData.keyHash P (Str.ofString "__spec__")) (Value.str (Str.ofString "__spec__") 169) Value.none, DictEntry.mk (PyData.keyHash P (Str.ofString "__annotations__")) (Value.str (Str.ofString "__annotations__") 170) (Value.ref 6), DictEntry.mk (PyData.keyHash P (Str.ofString "__builtins__")) (Value.str (Str.ofString "__builtins__") 171) (Value.ref 4), DictEntry.mk (PyData.keyHash P (Str.ofString "__file__")) (Value.str (Str.ofString "__file__") 173) (Value.str (Str.ofString "/claim/cut.py") 172), DictEntry.mk (PyData.keyHash P (Str.ofString "__cached__")) (Value.str (Str.ofString "__cached__") 174) Value.none, DictEntry.mk (PyData.keyHash P (Str.ofString "LET")) (Value.str (Str.ofString "LET") 191) (Value.int (-1) 190), DictEntry.mk (PyData.keyHash P (Str.ofString "Code")) (Value.str (Str.ofString "Code") 229) (Value.ref 38), DictEntry.mk (PyData.keyHash P (Str.ofString "labels_of")) (Value.str (Str.ofString "labels_of") 236) (Value.ref 49), DictEntry.mk (PyData.keyHash P (Str.ofString "relabelled")) (Value.str (Str.ofString "relabelled") 242) (Value.ref 54), DictEntry.mk (PyData.keyHash P (Str.ofString "pressed")) (Value.str (Str.ofString "pressed") 250) (Value.ref 59), DictEntry.mk (PyData.keyHash P (Str.ofString "LedgerError")) (Value.str (Str.ofString "LedgerError") 292) (Value.ref 85), DictEntry.mk (PyData.keyHash P (Str.ofString "RunFault")) (Value.str (Str.ofString "RunFault") 308) (Value.ref 98), DictEntry.mk (PyData.keyHash P (Str.ofString "SizeFault")) (Value.str (Str.ofString "SizeFault") 324) (Value.ref 110), DictEntry.mk (PyData.keyHash P (Str.ofString "StepFault")) (Value.str (Str.ofString "StepFault") 340) (Value.ref 122), DictEntry.mk (PyData.keyHash P (Str.ofString "MOST_PLACES")) (Value.str (Str.ofString "MOST_PLACES") 344) (Value.int 30 343), DictEntry.mk (PyData.keyHash P (Str.ofString "MOST_POWER")) (Value.str (Str.ofString "MOST_POWER") 346) (Value.int 99 345), DictEntry.mk (PyData.keyHash P (Str.ofString "MOST_FIGURES")) (Value.str (Str.ofString "MOST_FIGURES") 348) (Value.int 120 347), DictEntry.mk (PyData.keyHash P (Str.ofString "cut_quotient")) (Value.str (Str.ofString "cut_quotient") 356) (Value.ref 131), DictEntry.mk (PyData.keyHash P (Str.ofString "decimal")) (Value.str (Str.ofString "decimal") 365) (Value.ref 139), DictEntry.mk (PyData.keyHash P (Str.ofString "kept")) (Value.str (Str.ofString "kept") 373) (Value.ref 146), DictEntry.mk (PyData.keyHash P (Str.ofString "units_beside")) (Value.str (Str.ofString "units_beside") 382) (Value.ref 153), DictEntry.mk (PyData.keyHash P (Str.ofString "plus")) (Value.str (Str.ofString "plus") 393) (Value.ref 160), DictEntry.mk (PyData.keyHash P (Str.ofString "minus")) (Value.str (Str.ofString "minus") 404) (Value.ref 167), DictEntry.mk (PyData.keyHash P (Str.ofString "times")) (Value.str (Str.ofString "times") 412) (Value.ref 174), DictEntry.mk (PyData.keyHash P (Str.ofString "negated")) (Value.str (Str.ofString "negated") 419) (Value.ref 181), DictEntry.mk (PyData.keyHash P (Str.ofString "quotient")) (Value.str (Str.ofString "quotient") 428) (Value.ref 189), DictEntry.mk (PyData.keyHash P (Str.ofString "power")) (Value.str (Str.ofString "power") 438) (Value.ref 196), DictEntry.mk (PyData.keyHash P (Str.ofString "units_at")) (Value.str (Str.ofString "units_at") 449) (Value.ref 203), DictEntry.mk (PyData.keyHash P (Str.ofString "is_whole")) (Value.str (Str.ofString "is_whole") 456) (Value.ref 210), DictEntry.mk (PyData.keyHash P (Str.ofString "whole_of")) (Value.str (Str.ofString "whole_of") 463) (Value.ref 217), DictEntry.mk (PyData.keyHash P (Str.ofString "fits")) (Value.str (Str.ofString "fits") 471) (Value.ref 224), DictEntry.mk (PyData.keyHash P (Str.ofString "MOST_FRAMES")) (Value.str (Str.ofString "MOST_FRAMES") 475) (Value.int 20 474), DictEntry.mk (PyData.keyHash P (Str.ofString "NO_LABEL")) (Value.str (Str.ofString "NO_LABEL") 478) (Value.int (-1) 477), DictEntry.mk (PyData.keyHash P (Str.ofString "Frame")) (Value.str (Str.ofString "Frame") 510) (Value.ref 241), DictEntry.mk (PyData.keyHash P (Str.ofString "Machine")) (Value.str (Str.ofString "Machine") 554) (Value.ref 269), DictEntry.mk (PyData.keyHash P (Str.ofString "calculated")) (Value.str (Str.ofString "calculated") 563) (Value.ref 280), DictEntry.mk (PyData.keyHash P (Str.ofString "worth_by")) (Value.str (Str.ofString "worth_by") 572) (Value.ref 287), DictEntry.mk (PyData.keyHash P (Str.ofString "do_reckon")) (Value.str (Str.ofString "do_reckon") 580) (Value.ref 294), DictEntry.mk (PyData.keyHash P (Str.ofString "do_put")) (Value.str (Str.ofString "do_put") 588) (Value.ref 301), DictEntry.mk (PyData.keyHash P (Str.ofString "do_deed")) (Value.str (Str.ofString "do_deed") 596) (Value.ref 308), DictEntry.mk (PyData.keyHash P (Str.ofString "do_key")) (Value.str (Str.ofString "do_key") 604) (Value.ref 315), DictEntry.mk (PyData.keyHash P (Str.ofString "do_test")) (Value.str (Str.ofString "do_test") 612) (Value.ref 322), DictEntry.mk (PyData.keyHash P (Str.ofString "do_jump")) (Value.str (Str.ofString "do_jump") 620) (Value.ref 329), DictEntry.mk (PyData.keyHash P (Str.ofString "do_choose")) (Value.str (Str.ofString "do_choose") 629) (Value.ref 336), DictEntry.mk (PyData.keyHash P (Str.ofString "begin_frame")) (Value.str (Str.ofString "begin_frame") 637) (Value.ref 343), DictEntry.mk (PyData.keyHash P (Str.ofString "leave_frame")) (Value.str (Str.ofString "leave_frame") 645) (Value.ref 350), DictEntry.mk (PyData.keyHash P (Str.ofString "do_count")) (Value.str (Str.ofString "do_count") 653) (Value.ref 357), DictEntry.mk (PyData.keyHash P (Str.ofString "do_less")) (Value.str (Str.ofString "do_less") 662) (Value.ref 364), DictEntry.mk (PyData.keyHash P (Str.ofString "do_stop")) (Value.str (Str.ofString "do_stop") 670) (Value.ref 371), DictEntry.mk (PyData.keyHash P (Str.ofString "op_table")) (Value.str (Str.ofString "op_table") 676) (Value.ref 378), DictEntry.mk (PyData.keyHash P (Str.ofString "run_code")) (Value.str (Str.ofString "run_code") 689) (Value.ref 385), DictEntry.mk (PyData.keyHash P (Str.ofString "Deeds")) (Value.str (Str.ofString "Deeds") 726) (Value.ref 402), DictEntry.mk (PyData.keyHash P (Str.ofString "_law_draw")) (Value.str (Str.ofString "_law_draw") 739) (Value.ref 413), DictEntry.mk (PyData.keyHash P (Str.ofString "_law_place")) (Value.str (Str.ofString "_law_place") 745) (Value.ref 418), DictEntry.mk (PyData.keyHash P (Str.ofString "_law_run")) (Value.str (Str.ofString "_law_run") 757) (Value.ref 425), DictEntry.mk (PyData.keyHash P (Str.ofString "_law_runs_alike")) (Value.str (Str.ofString "_law_runs_alike") 775) (Value.ref 432), DictEntry.mk (PyData.keyHash P (Str.ofString "law")) (Value.str (Str.ofString "law") 781) (Value.ref 437)] 61) #[] :: boot_o_4 P :: boot_o_5 P :: boot_o_6 P :: boot_o_7 P :: boot_o_8 P :: boot_o_9 P :: boot_o_10 P :: Obj.mk (Value.type "tuple") Option.none (Data.seq #[] 0) #[] :: Obj.mk Value.none Option.none (Data.fields #[Value.int 3 0, Value.int 0 0, Value.ref 20, Value.int 11 0, Value.int 0 0, Value.ref 48, Value.int 19 0, Value.int 0 0, Value.ref 53, Value.int 28 0, Value.int 0 0, Value.ref 58, Value.int 41 0, Value.int 0 0, Value.ref 65, Value.int 50 0, Value.int 0 0, Value.ref 94, Value.int 52 0, Value.int 0 0, Value.ref 106, Value.int 54 0, Value.int 0 0, Value.ref 118, Value.int 60 0, Value.int 0 0, Value.ref 130, Value.int 64 0, Value.int 0 0, Value.ref 138, Value.int 71 0, Value.int 0 0, Value.ref 145, Value.int 78 0, Value.int 0 0, Value.ref 152, Value.int 81 0, Value.int 0 0, Value.ref 159, Value.int 84 0, Value.int 0 0, Value.ref 166, Value.int 87 0, Value.int 0 0, Value.ref 173, Value.int 89 0, Value.int 0 0, Value.ref 180, Value.int 91 0, Value.int 0 0, Value.ref 188, Value.int 95 0, Value.int 0 0, Value.ref 195, Value.int 104 0, Value.int 0 0, Value.ref 202, Value.int 112 0, Value.int 0 0, Value.ref 209, Value.int 114 0, Value.int 0 0, Value.ref 216, Value.int 116 0, Value.int 0 0, Value.ref 223, Value.int 121 0, Value.int 0 0, Value.ref 230, Value.int 127 0, Value.int 0 0, Value.ref 251, Value.int 141 0, Value.int 0 0, Value.ref 279, Value.int 149 0, Value.int 0 0, Value.ref 286, Value.int 154 0, Value.int 0 0, Value.ref 293, Value.int 161 0, Value.int 0 0, Value.ref 300, Value.int 164 0, Value.int 0 0, Value.ref 307, Value.int 166 0, Value.int 0 0, Value.ref 314, Value.int 169 0, Value.int 0 0, Value.ref 321, Value.int 172 0, Value.int 0 0, Value.ref 328, Value.int 174 0, Value.int 0 0, Value.ref 335, Value.int 178 0, Value.int 0 0, Value.ref 342, Value.int 183 0, Value.int 0 0, Value.ref 349, Value.int 186 0, Value.int 0 0, Value.ref 356, Value.int 188 0, Value.int 0 0, Value.ref 363, Value.int 194 0, Value.int 0 0, Value.ref 370, Value.int 196 0, Value.int 0 0, Value.ref 377, Value.int 198 0, Value.int 0 0, Value.ref 384, Value.int 213 0, Value.int 0 0, Value.ref 391, Value.int 221 0, Value.int 0 0, Value.ref 412, Value.int 228 0, Value.int 0 0, Value.ref 417, Value.int 232 0, Value.int 0 0, Value.ref 424, Value.int 243 0, Value.int 0 0, Value.ref 431, Value.int 260 0, Value.int 0 0, Value.ref 436]) #[] :: Obj.mk (Value.type "code") Option.none (Data.fields #[Value.str (Str.ofString "<module>") 182, Value.str (Str.ofString "<module>") 183, Value.str (Str.ofString "/claim/cut.py") 184, Value.int 1 0, Value.int 0 0, Value.int 0 0, Value.int 0 0, Value.int 0 0, Value.ref 11, Value.bool Bool.false, Value.int 181 0, Value.ref 12, Value.none, Value.none, Value.none, Value.none, Value.int 185 0, Value.int 1 0, Value.str (Str.ofString "/claim/cut.py") 186]) #[] :: Obj.mk (Value.type "frame") Option.none Data.plain #[Option.some (Value.ref 13), Option.some (Value.ref 3), Option.some (Value.ref 3), Option.none, Option.some (Value.str (Str.ofString "__main__") 164), Option.none, Option.some (Value.ref 0)] :: Obj.mk (Value.type "tuple") Option.none (Data.seq #[] 0) #[] :: Obj.mk (Value.type "builtin_function_or_method") Option.none (Data.fields #[Value.builtin "type.__prepare__", Value.type "type"]) #[] :: Obj.mk (Value.type "dict") Option.none (Data.dict #[DictEntry.mk (PyData.keyHash P (Str.ofString "__module__")) (Value.str (Str.ofString "__module__") 199) (Value.str (Str.ofString "ledgerspeak.codes") 187), DictEntry.mk (PyData.keyHash P (Str.ofString "__qualname__")) (Value.str (Str.ofString "__qualname__") 201) (Value.str (Str.ofString "Code") 200), DictEntry.mk (PyData.keyHash P (Str.ofString "__firstlineno__")) (Value.str (Str.ofString "__firstlineno__") 203) (Value.int 3 202), DictEntry.mk (PyData.keyHash P (Str.ofString "__init__")) (Value.str (Str.ofString "__init__") 212) (Value.ref 28), DictEntry.mk (PyData.keyHash P (Str.ofString "told")) (Value.str (Str.ofString "told") 219) (Value.ref 35), DictEntry.mk (PyData.keyHash P (Str.ofString "__static_attributes__")) (Value.str (Str.ofString "__static_attributes__") 222) (Value.ref 36)] 6) #[] :: Obj.mk (Value.type "tuple") Option.none (Data.seq #[] 0) #[] :: Obj.mk Value.none Option.none (Data.fields #[Value.int 5 0, Value.int 4 0, Value.ref 27, Value.int 9 0, Value.int 4 0, Value.ref 34]) #[] :: Obj.mk (Value.type "code") Option.none (Data.fields #[Value.str (Str.ofString "Code") 194, Value.str (Str.ofString "Code") 195, Value.str (Str.ofString "/claim/cut.py") 196, Value.int 3 0, Value.int 0 0, Value.int 0 0, Value.int 0 0, Value.int 0 0, Value.ref 18, Value.bool Bool.false, Value.int 181 0, Value.ref 19, Value.none, Value.none, Value.none, Value.none, Value.int 197 0, Value.int 3 0, Value.str (Str.ofString "/claim/cut.py") 198]) #[] :: Obj.mk (Value.type "frame") Option.none Data.plain #[Option.some (Value.ref 20), Option.some (Value.ref 3), Option.some (Value.ref 17), Option.none, Option.some (Value.str (Str.ofString "ledgerspeak.codes") 187), Option.none, Option.some (Value.ref 0)] :: Obj.mk (Value.type "tuple") Option.none (Data.seq #[] 0) #[] :: Obj.mk Value.none Option.none (Data.fields #[]) #[] :: Obj.mk (Value.type "tuple") Option.none (Data.seq #[Value.str (Str.ofString "self") 207, Value.str (Str.ofString "ops") 208, Value.str (Str.ofString "begins") 209] 0) #[] :: Obj.mk (Value.type "tuple") Option.none (Data.seq #[] 0) #[] :: Obj.mk Value.none Option.none (Data.func (FuncData.mk (Str.ofString "__init__") (Str.ofString "Code.__init__") aP10 (FuncBody.stmts aB10) aS10 0 [] Value.none Value.none Value.none Value.none Option.none Value.none Value.none 0)) #[] :: Obj.mk (Value.type "code") Option.none (Data.fields #[Value.str (Str.ofString "__init__") 204, Value.str (Str.ofString "Code.__init__") 205, Value.str (Str.ofString "/claim/cut.py") 206, Value.int 5 0, Value.int 3 0, Value.int 0 0, Value.int 0 0, Value.int 3 0, Value.ref 22, Value.bool Bool.true, Value.int 181 0, Value.ref 23, Value.none, Value.ref 24, Value.ref 25, Value.ref 26, Value.int 210 0, Value.int 5 0, Value.str (Str.ofString "/claim/cut.py") 211]) #[] :: Obj.mk (Value.type "function") Option.none (Data.func (FuncData.mk (Str.ofString "__init__") (Str.ofString "Code.__init__") aP10 (FuncBody.stmts aB10) aS10 3 [] Value.none Value.none Value.none (Value.str (Str.ofString "ledgerspeak.codes") 187) Option.none (Value.ref 27) Value.none 0)) #[] :: Obj.mk (Value.type "tuple") Option.none (Data.seq #[] 0) #[] :: Obj.mk Value.none Option.none (Data.fields #[]) #[] :: Obj.mk (Value.type "tuple") Option.none (Data.seq #[Value.str (Str.ofString "self") 216] 0) #[] :: Obj.mk (Value.type "tuple") Option.none (Data.seq #[] 0) #[] :: Obj.mk Value.none Option.none (Data.func (FuncData.mk (Str.ofString "told") (Str.ofString "Code.told") aP1 (FuncBody.stmts aB1) aS1 0 [] Value.none Value.none Value.none Value.none Option.none Value.none Value.none 0)) #[] :: Obj.mk (Value.type "code") Option.none (Data.fields #[Value.str (Str.ofString "told") 213, Value.str (Str.ofString "Code.told") 214, Value.str (Str.ofString "/claim/cut.py") 215, Value.int 9 0, Value.int 1 0, Value.int 0 0, Value.int 0 0, Value.int 3 0, Value.ref 29, Value.bool Bool.true, Value.int 181 0, Value.ref 30, Value.none, Value.ref 31, Value.ref 32, Value.ref 33, Value.int 217 0, Value.int 9 0, Value.str (Str.ofString "/claim/cut.py") 218]) #[] :: Obj.mk (Value.type "function") Option.none (Data.func (FuncData.mk (Str.ofString "told") (Str.ofString "Code.told") aP1 (FuncBody.stmts aB1) aS1 3 [] Value.none Value.none Value.none (Value.str (Str.ofString "ledgerspeak.codes") 187) Option.none (Value.ref 34) Value.none 0)) #[] :: Obj.mk (Value.type "tuple") Option.none (Data.seq #[Value.str (Str.ofString "begins") 220, Value.str (Str.ofString "ops") 221] 0) #[] :: Obj.mk (Value.type "dict") Option.none (Data.dict #[DictEntry.mk (PyData.keyHash P (Str.ofString "__module__")) (Value.str (Str.ofString "__module__") 199) (Value.str (Str.ofString "ledgerspeak.codes") 187), DictEntry.mk (PyData.keyHash P (Str.ofString "__firstlineno__")) (Value.str (Str.ofString "__firstlineno__") 203) (Value.int 3 202), DictEntry.mk (PyData.keyHash P (Str.ofString "__init__")) (Value.str (Str.ofString "__init__") 212) (Value.ref 28), DictEntry.mk (PyData.keyHash P (Str.ofString "told")) (Value.str (Str.ofString "told") 219) (Value.ref 35), DictEntry.mk (PyData.keyHash P (Str.ofString "__static_attributes__")) (Value.str (Str.ofString "__static_attributes__") 222) (Value.ref 36), DictEntry.mk (PyData.keyHash P (Str.ofString "__dict__")) (Value.str (Str.ofString "__dict__") 224) (Value.ref 39), DictEntry.mk (PyData.keyHash P (Str.ofString "__weakref__")) (Value.str (Str.ofString "__weakref__") 226) (Value.ref 40), DictEntry.mk (PyData.keyHash P (Str.ofString "__doc__")) (Value.str (Str.ofString "__doc__") 227) Value.none] 4) #[] :: Obj.mk (Value.type "type") Option.none (Data.cls (ClassData.mk (Str.ofString "Code") [Value.type "object"] [Value.ref 38, Value.type "object"] 37 (Str.ofString "Code") Bool.true [] [] Bool.false Option.none Bool.false)) #[Option.none, Option.none, Option.some (Value.str (Str.ofString "Code") 192), Option.some (Value.str (Str.ofString "Code") 200), Option.some (Value.builtin "object.__new__"), Option.some (Value.bool Bool.true)] :: Obj.mk (Value.type "getset_descriptor") Option.none (Data.fields #[Value.str (Str.ofString "__dict__") 223, Value.ref 38, Value.builtin "function.__dict__", Value.builtin "function.__dict__#set"]) #[] :: Obj.mk (Value.type "getset_descriptor") Option.none (Data.fields #[Value.str (Str.ofString "__weakref__") 225, Value.ref 38, Value.builtin "ExceptionGroup.__weakref__", Value.none]) #[] :: Obj.mk (Value.type "super") Option.none (Data.fields #[Value.ref 38, Value.ref 38, Value.ref 38]) #[] :: Obj.mk (Value.type "builtin_function_or_method") Option.none (Data.fields #[Value.builtin "object.__init_subclass__", Value.ref 38]) #[] :: Obj.mk (Value.type "tuple") Option.none (Data.seq #[] 0) #[] :: Obj.mk Value.none Option.none (Data.fields #[]) #[] :: Obj.mk (Value.type "tuple") Option.none (Data.seq #[Value.str (Str.ofString "op") 233] 0) #[] :: Obj.mk (Value.type "tuple") Option.none (Data.seq #[] 0) #[] :: Obj.mk Value.none Option.none (Data.func (FuncData.mk (Str.ofString "labels_of") (Str.ofString "labels_of") aP0 (FuncBody.stmts aB0) aS0 0 [] Value.none Value.none Value.none Value.none Option.none Value.none Value.none 0)) #[] :: Obj.mk (Value.type "code") Option.none (Data.fields #[Value.str (Str.ofString "labels_of") 230, Value.str (Str.ofString "labels_of") 231, Value.str (Str.ofString "/claim/cut.py") 232, Value.int 11 0, Value.int 1 0, Value.int 0 0, Value.int 0 0, Value.int 3 0, Value.ref 43, Value.bool Bool.true, Value.int 181 0, Value.ref 44, Value.none, Value.ref 45, Value.ref 46, Value.ref 47, Value.int 234 0, Value.int 11 0, Value.str (Str.ofString "/claim/cut.py") 235]) #[] :: Obj.mk (Value.type "function") Option.none (Data.func (FuncData.mk (Str.ofString "labels_of") (Str.ofString "labels_of") aP0 (FuncBody.stmts aB0) aS0 3 [] Value.none Value.none Value.none (Value.str (Str.ofString "ledgerspeak.codes") 187) Option.none (Value.ref 48) Value.none 0)) #[] :: Obj.mk (Value.type "tuple") Option.none (Data.seq #[] 0) #[] :: Obj.mk Value.none Option.none (Data.fields #[]) #[] :: Obj.mk Value.none Option.none (Data.func (FuncData.mk (Str.ofString "relabelled") (Str.ofString "relabelled") aP9 (FuncBody.stmts aB9) aS9 0 [] Value.none Value.none Value.none Value.none Option.none Value.none Value.none 0)) #[] :: Obj.mk (Value.type "code") Option.none (Data.fields #[Value.str (Str.ofString "relabelled") 237, Value.str (Str.ofString "relabelled") 238, Value.str (Str.ofString "/claim/cut.py") 239, Value.int 19 0, Value.int 2 0, Value.int 0 0, Value.int 0 0, Value.int 3 0, Value.ref 50, Value.bool Bool.true, Value.int 181 0, Value.ref 51, Value.none, Value.none, Value.none, Value.ref 52, Value.int 240 0, Value.int 19 0, Value.str (Str.ofString "/claim/cut.py") 241]) #[] :: Obj.mk (Value.type "function") Option.none (Data.func (FuncData.mk (Str.ofString "relabelled") (Str.ofString "relabelled") aP9 (FuncBody.stmts aB9) aS9 3 [] Value.none Value.none Value.none (Value.str (Str.ofString "ledgerspeak.codes") 187) Option.none (Value.ref 53) Value.none 0)) #[] :: Obj.mk (Value.type "tuple") Option.none (Data.seq #[] 0) #[] :: Obj.mk Value.none Option.none (Data.fields #[]) #[] :: Obj.mk Value.none Option.none (Data.func (FuncData.mk (Str.ofString "pressed") (Str.ofString "pressed") aP3 (FuncBody.stmts aB3) aS3 0 [] Value.none Value.none Value.none Value.none Option.none Value.none Value.none 0)) #[] :: Obj.mk (Value.type "code") Option.none (Data.fields #[Value.str (Str.ofString "pressed") 245, Value.str (Str.ofString "pressed") 246, Value.str (Str.ofString "/claim/cut.py") 247, Value.int 28 0, Value.int 2 0, Value.int 0 0, Value.int 0 0, Value.int 3 0, Value.ref 55, Value.bool Bool.true, Value.int 181 0, Value.ref 56, Value.none, Value.none, Value.none, Value.ref 57, Value.int 248 0, Value.int 28 0, Value.str (Str.ofString "/claim/cut.py") 249]) #[] :: Obj.mk (Value.type "function") Option.none (Data.func (FuncData.mk (Str.ofString "pressed") (Str.ofString "pressed") aP3 (FuncBody.stmts aB3) aS3 3 [] Value.none Value.none Value.none (Value.str (Str.ofString "ledgerspeak.peephole") 243) Option.none (Value.ref 58) Value.none 0)) #[] :: Obj.mk (Value.type "tuple") Option.none (Data.seq #[Value.type "Exception"] 0) #[] :: Obj.mk (Value.type "builtin_function_or_method") Option.none (Data.fields #[Value.builtin "type.__prepare__", Value.type "type"]) #[] :: Obj.mk (Value.type "dict") Option.none (Data.dict #[DictEntry.mk (PyData.keyHash P (Str.ofString "__module__")) (Value.str (Str.ofString "__module__") 260) (Value.str (Str.ofString "ledgerspeak.errors") 251), DictEntry.mk (PyData.keyHash P (Str.ofString "__qualname__")) (Value.str (Str.ofString "__qualname__") 262) (Value.str (Str.ofString "LedgerError") 261), DictEntry.mk (PyData.keyHash P (Str.ofString "__firstlineno__")) (Value.str (Str.ofString "__firstlineno__") 264) (Value.int 41 263), DictEntry.mk (PyData.keyHash P (Str.ofString "__init__")) (Value.str (Str.ofString "__init__") 275) (Value.ref 75), DictEntry.mk (PyData.keyHash P (Str.ofString "told")) (Value.str (Str.ofString "told") 282) (Value.ref 82), DictEntry.mk (PyData.keyHash P (Str.ofString "__static_attributes__")) (Value.str (Str.ofString "__static_attributes__") 285) (Value.ref 83)] 6) #[] :: Obj.mk (Value.type "tuple") Option.none (Data.seq #[] 0) #[] :: Obj.mk Value.none Option.none (Data.fields #[Value.int 43 0, Value.int 4 0, Value.ref 74, Value.int 48 0, Value.int 4 0, Value.ref 81]) #[] :: Obj.mk (Value.type "code") Option.none (Data.fields #[Value.str (Str.ofString "LedgerError") 255, Value.str (Str.ofString "LedgerError") 256, Value.str (Str.ofString "/claim/cut.py") 257, Value.int 41 0, Value.int 0 0, Value.int 0 0, Value.int 0 0, Value.int 0 0, Value.ref 63, Value.bool Bool.false, Value.int 181 0, Value.ref 64, Value.none, Value.none, Value.none, Value.none, Value.int 258 0, Value.int 41 0, Value.str (Str.ofString "/claim/cut.py") 259]) #[] :: Obj.mk (Value.type "frame") Option.none Data.plain #[Option.some (Value.ref 65), Option.some (Value.ref 3), Option.some (Value.ref 62), Option.none, Option.some (Value.str (Str.ofString "ledgerspeak.errors") 251), Option.none, Option.some (Value.ref 0)] :: Obj.mk (Value.type "tuple") Option.none (Data.seq #[Value.int 0 265, Value.int 0 266] 0) #[] :: Obj.mk (Value.type "tuple") Option.none (Data.seq #[Value.ref 67] 0) #[] :: Obj.mk (Value.type "tuple") Option.none (Data.seq #[] 0) #[] :: Obj.mk Value.none Option.none (Data.fields #[]) #[] :: Obj.mk (Value.type "tuple") Option.none (Data.seq #[Value.str (Str.ofString "self") 270, Value.str (Str.ofString "what") 271, Value.str (Str.ofString "at") 272] 0) #[] :: Obj.mk (Value.type "tuple") Option.none (Data.seq #[] 0) #[] :: Obj.mk Value.none Option.none (Data.func (FuncData.mk (Str.ofString "__init__") (Str.ofString "LedgerError.__init__") aP2 (FuncBody.stmts aB2) aS2 0 [] Value.none Value.none Value.none Value.none Option.none Value.none Value.none 0)) #[] :: Obj.mk (Value.type "code") Option.none (Data.fields #[Value.str (Str.ofString "__init__") 267, Value.str (Str.ofString "LedgerError.__init__") 268, Value.str (Str.ofString "/claim/cut.py") 269, Value.int 43 0, Value.int 3 0, Value.int 0 0, Value.int 0 0, Value.int 3 0, Value.ref 69, Value.bool Bool.true, Value.int 181 0, Value.ref 70, Value.none, Value.ref 71, Value.ref 72, Value.ref 73, Value.int 273 0, Value.int 43 0, Value.str (Str.ofString "/claim/cut.py") 274]) #[] :: Obj.mk (Value.type "function") Option.none (Data.func (FuncData.mk (Str.ofString "__init__") (Str.ofString "LedgerError.__init__") aP2 (FuncBody.stmts aB2) aS2 3 [] (Value.ref 68) Value.none Value.none (Value.str (Str.ofString "ledgerspeak.errors") 251) Option.none (Value.ref 74) Value.none 0)) #[] :: Obj.mk (Value.type "tuple") Option.none (Data.seq #[] 0) #[] :: Obj.mk Value.none Option.none (Data.fields #[]) #[] :: Obj.mk (Value.type "tuple") Option.none (Data.seq #[Value.str (Str.ofString "self") 279] 0) #[] :: Obj.mk (Value.type "tuple") Option.none (Data.seq #[] 0) #[] :: Obj.mk Value.none Option.none (Data.func (FuncData.mk (Str.ofString "told") (Str.ofString "LedgerError.told") aP8 (FuncBody.stmts aB8) aS8 0 [] Value.none Value.none Value.none Value.none Option.none Value.none Value.none 0)) #[] :: Obj.mk (Value.type "code") Option.none (Data.fields #[Value.str (Str.ofString "told") 276, Value.str (Str.ofString "LedgerError.told") 277, Value.str (Str.ofString "/claim/cut.py") 278, Value.int 48 0, Value.int 1 0, Value.int 0 0, Value.int 0 0, Value.int 3 0, Value.ref 76, Value.bool Bool.true, Value.int 181 0, Value.ref 77, Value.none, Value.ref 78, Value.ref 79, Value.ref 80, Value.int 280 0, Value.int 48 0, Value.str (Str.ofString "/claim/cut.py") 281]) #[] :: Obj.mk (Value.type "function") Option.none (Data.func (FuncData.mk (Str.ofString "told") (Str.ofString "LedgerError.told") aP8 (FuncBody.stmts aB8) aS8 3 [] Value.none Value.none Value.none (Value.str (Str.ofString "ledgerspeak.errors") 251) Option.none (Value.ref 81) Value.none 0)) #[] :: Obj.mk (Value.type "tuple") Option.none (Data.seq #[Value.str (Str.ofString "at") 283, Value.str (Str.ofString "what") 284] 0) #[] :: Obj.mk (Value.type "dict") Option.none (Data.dict #[DictEntry.mk (PyData.keyHash P (Str.ofString "__module__")) (Value.str (Str.ofString "__module__") 260) (Value.str (Str.ofString "ledgerspeak.errors") 251), DictEntry.mk (PyData.keyHash P (Str.ofString "__firstlineno__")) (Value.str (Str.ofString "__firstlineno__") 264) (Value.int 41 263), DictEntry.mk (PyData.keyHash P (Str.ofString "__init__")) (Value.str (Str.ofString "__init__") 275) (Value.ref 75), DictEntry.mk (PyData.keyHash P (Str.ofString "told")) (Value.str (Str.ofString "told") 282) (Value.ref 82), DictEntry.mk (PyData.keyHash P (Str.ofString "__static_attributes__")) (Value.str (Str.ofString "__static_attributes__") 285) (Value.ref 83), DictEntry.mk (PyData.keyHash P (Str.ofString "__weakref__")) (Value.str (Str.ofString "__weakref__") 287) (Value.ref 86), DictEntry.mk (PyData.keyHash P (Str.ofString "__doc__")) (Value.str (Str.ofString "__doc__") 288) Value.none] 3) #[] :: Obj.mk (Value.type "type") Option.none (Data.cls (ClassData.mk (Str.ofString "LedgerError") [Value.type "Exception"] [Value.ref 85, Value.type "Exception", Value.type "BaseException", Value.type "object"] 84 (Str.ofString "LedgerError") Bool.true [] [Value.ref 98, Value.ref 110, Value.ref 122] Bool.false Option.none Bool.false)) #[Option.some (Value.ref 60), Option.none, Option.some (Value.str (Str.ofString "LedgerError") 253), Option.some (Value.str (Str.ofString "LedgerError") 261), Option.some (Value.builtin "Exception.__new__"), Option.some (Value.bool Bool.true)] :: Obj.mk (Value.type "getset_descriptor") Option.none (Data.fields #[Value.str (Str.ofString "__weakref__") 286, Value.ref 85, Value.builtin "ExceptionGroup.__weakref__", Value.none]) #[] :: Obj.mk (Value.type "super") Option.none (Data.fields #[Value.ref 85, Value.ref 85, Value.ref 85]) #[] :: Obj.mk (Value.type "builtin_function_or_method") Option.none (Data.fields #[Value.builtin "object.__init_subclass__", Value.ref 85]) #[] :: Obj.mk (Value.type "tuple") Option.none (Data.seq #[Value.ref 85] 0) #[] :: Obj.mk (Value.type "builtin_function_or_method") Option.none (Data.fields #[Value.builtin "type.__prepare__", Value.type "type"]) #[] :: Obj.mk (Value.type "dict") Option.none (Data.dict #[DictEntry.mk (PyData.keyHash P (Str.ofString "__module__")) (Value.str (Str.ofString "__module__") 300) (Value.str (Str.ofString "ledgerspeak.errors") 251), DictEntry.mk (PyData.keyHash P (Str.ofString "__qualname__")) (Value.str (Str.ofString "__qualname__") 302) (Value.str (Str.ofString "RunFault") 301), DictEntry.mk (PyData.keyHash P (Str.ofString "__firstlineno__")) (Value.str (Str.ofString "__firstlineno__") 304) (Value.int 50 303), DictEntry.mk (PyData.keyHash P (Str.ofString "__static_attributes__")) (Value.str (Str.ofString "__static_attributes__") 305) (Value.ref 96)] 4) #[] :: Obj.mk (Value.type "tuple") Option.none (Data.seq #[] 0) #[] :: Obj.mk Value.none Option.none (Data.fields #[]) #[] :: Obj.mk (Value.type "code") Option.none (Data.fields #[Value.str (Str.ofString "RunFault") 295, Value.str (Str.ofString "RunFault") 296, Value.str (Str.ofString "/claim/cut.py") 297, Value.int 50 0, Value.int 0 0, Value.int 0 0, Value.int 0 0, Value.int 0 0, Value.ref 92, Value.bool Bool.false, Value.int 181 0, Value.ref 93, Value.none, Value.none, Value.none, Value.none, Value.int 298 0, Value.int 50 0, Value.str (Str.ofString "/claim/cut.py") 299]) #[] :: Obj.mk (Value.type "frame") Option.none Data.plain #[Option.some (Value.ref 94), Option.some (Value.ref 3), Option.some (Value.ref 91), Option.none, Option.some (Value.str (Str.ofString "ledgerspeak.errors") 251), Option.none, Option.some (Value.ref 0)] :: Obj.mk (Value.type "tuple") Option.none (Data.seq #[] 0) #[] :: Obj.mk (Value.type "dict") Option.none (Data.dict #[DictEntry.mk (PyData.keyHash P (Str.ofString "__module__")) (Value.str (Str.ofString "__module__") 300) (Value.str (Str.ofString "ledgerspeak.errors") 251), DictEntry.mk (PyData.keyHash P (Str.ofString "__firstlineno__")) (Value.str (Str.ofString "__firstlineno__") 304) (Value.int 50 303), DictEntry.mk (PyData.keyHash P (Str.ofString "__static_attributes__")) (Value.str (Str.ofString "__static_attributes__") 305) (Value.ref 96), DictEntry.mk (PyData.keyHash P (Str.ofString "__doc__")) (Value.str (Str.ofString "__doc__") 306) Value.none] 2) #[] :: Obj.mk (Value.type "type") Option.none (Data.cls (ClassData.mk (Str.ofString "RunFault") [Value.ref 85] [Value.ref 98, Value.ref 85, Value.type "Exception", Value.type "BaseException", Value.type "object"] 97 (Str.ofString "RunFault") Bool.true [] [] Bool.false Option.none Bool.false)) #[Option.some (Value.ref 89), Option.none, Option.some (Value.str (Str.ofString "RunFault") 293), Option.some (Value.str (Str.ofString "RunFault") 301), Option.some (Value.builtin "Exception.__new__"), Option.some (Value.bool Bool.true)] :: Obj.mk (Value.type "super") Option.none (Data.fields #[Value.ref 98, Value.ref 98, Value.ref 98]) #[] :: Obj.mk (Value.type "builtin_function_or_method") Option.none (Data.fields #[Value.builtin "object.__init_subclass__", Value.ref 98]) #[] :: Obj.mk (Value.type "tuple") Option.none (Data.seq #[Value.ref 85] 0) #[] :: Obj.mk (Value.type "builtin_function_or_method") Option.none (Data.fields #[Value.builtin "type.__prepare__", Value.type "type"]) #[] :: Obj.mk (Value.type "dict") Option.none (Data.dict #[DictEntry.mk (PyData.keyHash P (Str.ofString "__module__")) (Value.str (Str.ofString "__module__") 316) (Value.str (Str.ofString "ledgerspeak.errors") 251), DictEntry.mk (PyData.keyHash P (Str.ofString "__qualname__")) (Value.str (Str.ofString "__qualname__") 318) (Value.str (Str.ofString "SizeFault") 317), DictEntry.mk (PyData.keyHash P (Str.ofString "__firstlineno__")) (Value.str (Str.ofString "__firstlineno__") 320) (Value.int 52 319), DictEntry.mk (PyData.keyHash P (Str.ofString "__static_attributes__")) (Value.str (Str.ofString "__static_attributes__") 321) (Value.ref 108)] 4) #[] :: Obj.mk (Value.type "tuple") Option.none (Data.seq #[] 0) #[] :: Obj.mk Value.none Option.none (Data.fields #[]) #[] :: Obj.mk (Value.type "code") Option.none (Data.fields #[Value.str (Str.ofString "SizeFault") 311, Value.str (Str.ofString "SizeFault") 312, Value.str (Str.ofString "/claim/cut.py") 313, Value.int 52 0, Value.int 0 0, Value.int 0 0, Value.int 0 0, Value.int 0 0, Value.ref 104, Value.bool Bool.false, Value.int 181 0, Value.ref 105, Value.none, Value.none, Value.none, Value.none, Value.int 314 0, Value.int 52 0, Value.str (Str.ofString "/claim/cut.py") 315]) #[] :: Obj.mk (Value.type "frame") Option.none Data.plain #[Option.some (Value.ref 106), Option.some (Value.ref 3), Option.some (Value.ref 103), Option.none, Option.some (Value.str (Str.ofString "ledgerspeak.errors") 251), Option.none, Option.some (Value.ref 0)] :: Obj.mk (Value.type "tuple") Option.none (Data.seq #[] 0) #[] :: Obj.mk (Value.type "dict") Option.none (Data.dict #[DictEntry.mk (PyData.keyHash P (Str.ofString "__module__")) (Value.str (Str.ofString "__module__") 316) (Value.str (Str.ofString "ledgerspeak.errors") 251), DictEntry.mk (PyData.keyHash P (Str.ofString "__firstlineno__")) (Value.str (Str.ofString "__firstlineno__") 320) (Value.int 52 319), DictEntry.mk (PyData.keyHash P (Str.ofString "__static_attributes__")) (Value.str (Str.ofString "__static_attributes__") 321) (Value.ref 108), DictEntry.mk (PyData.keyHash P (Str.ofString "__doc__")) (Value.str (Str.ofString "__doc__") 322) Value.none] 2) #[] :: Obj.mk (Value.type "type") Option.none (Data.cls (ClassData.mk (Str.ofString "SizeFault") [Value.ref 85] [Value.ref 110, Value.ref 85, Value.type "Exception", Value.type "BaseException", Value.type "object"] 109 (Str.ofString "SizeFault") Bool.true [] [] Bool.false Option.none Bool.false)) #[Option.some (Value.ref 101), Option.none, Option.some (Value.str (Str.ofString "SizeFault") 309), Option.some (Value.str (Str.ofString "SizeFault") 317), Option.some (Value.builtin "Exception.__new__"), Option.some (Value.bool Bool.true)] :: Obj.mk (Value.type "super") Option.none (Data.fields #[Value.ref 110, Value.ref 110, Value.ref 110]) #[] :: Obj.mk (Value.type "builtin_function_or_method") Option.none (Data.fields #[Value.builtin "object.__init_subclass__", Value.ref 110]) #[] :: Obj.mk (Value.type "tuple") Option.none (Data.seq #[Value.ref 85] 0) #[] :: Obj.mk (Value.type "builtin_function_or_method") Option.none (Data.fields #[Value.builtin "type.__prepare__", Value.type "type"]) #[] :: Obj.mk (Value.type "dict") Option.none (Data.dict #[DictEntry.mk (PyData.keyHash P (Str.ofString "__module__")) (Value.str (Str.ofString "__module__") 332) (Value.str (Str.ofString "ledgerspeak.errors") 251), DictEntry.mk (PyData.keyHash P (Str.ofString "__qualname__")) (Value.str (Str.ofString "__qualname__") 334) (Value.str (Str.ofString "StepFault") 333), DictEntry.mk (PyData.keyHash P (Str.ofString "__firstlineno__")) (Value.str (Str.ofString "__firstlineno__") 336) (Value.int 54 335), DictEntry.mk (PyData.keyHash P (Str.ofString "__static_attributes__")) (Value.str (Str.ofString "__static_attributes__") 337) (Value.ref 120)] 4) #[] :: Obj.mk (Value.type "tuple") Option.none (Data.seq #[] 0) #[] :: Obj.mk Value.none Option.none (Data.fields #[]) #[] :: Obj.mk (Value.type "code") Option.none (Data.fields #[Value.str (Str.ofString "StepFault") 327, Value.str (Str.ofString "StepFault") 328, Value.str (Str.ofString "/claim/cut.py") 329, Value.int 54 0, Value.int 0 0, Value.int 0 0, Value.int 0 0, Value.int 0 0, Value.ref 116, Value.bool Bool.false, Value.int 181 0, Value.ref 117, Value.none, Value.none, Value.none, Value.none, Value.int 330 0, Value.int 54 0, Value.str (Str.ofString "/claim/cut.py") 331]) #[] :: Obj.mk (Value.type "frame") Option.none Data.plain #[Option.some (Value.ref 118), Option.some (Value.ref 3), Option.some (Value.ref 115), Option.none, Option.some (Value.str (Str.ofString "ledgerspeak.errors") 251), Option.none, Option.some (Value.ref 0)] :: Obj.mk (Value.type "tuple") Option.none (Data.seq #[] 0) #[] :: Obj.mk (Value.type "dict") Option.none (Data.dict #[DictEntry.mk (PyData.keyHash P (Str.ofString "__module__")) (Value.str (Str.ofString "__module__") 332) (Value.str (Str.ofString "ledgerspeak.errors") 251), DictEntry.mk (PyData.keyHash P (Str.ofString "__firstlineno__")) (Value.str (Str.ofString "__firstlineno__") 336) (Value.int 54 335), DictEntry.mk (PyData.keyHash P (Str.ofString "__static_attributes__")) (Value.str (Str.ofString "__static_attributes__") 337) (Value.ref 120), DictEntry.mk (PyData.keyHash P (Str.ofString "__doc__")) (Value.str (Str.ofString "__doc__") 338) Value.none] 2) #[] :: Obj.mk (Value.type "type") Option.none (Data.cls (ClassData.mk (Str.ofString "StepFault") [Value.ref 85] [Value.ref 122, Value.ref 85, Value.type "Exception", Value.type "BaseException", Value.type "object"] 121 (Str.ofString "StepFault") Bool.true [] [] Bool.false Option.none Bool.false)) #[Option.some (Value.ref 113), Option.none, Option.some (Value.str (Str.ofString "StepFault") 325), Option.some (Value.str (Str.ofString "StepFault") 333), Option.some (Value.builtin "Exception.__new__"), Option.some (Value.bool Bool.true)] :: Obj.mk (Value.type "super") Option.none (Data.fields #[Value.ref 122, Value.ref 122, Value.ref 122]) #[] :: Obj.mk (Value.type "builtin_function_or_method") Option.none (Data.fields #[Value.builtin "object.__init_subclass__", Value.ref 122]) #[] :: Obj.mk (Value.type "tuple") Option.none (Data.seq #[] 0) #[] :: Obj.mk Value.none Option.none (Data.fields #[]) #[] :: Obj.mk (Value.type "tuple") Option.none (Data.seq #[Value.str (Str.ofString "top") 352, Value.str (Str.ofString "bottom") 353] 0) #[] :: Obj.mk (Value.type "tuple") Option.none (Data.seq #[] 0) #[] :: Obj.mk Value.none Option.none (Data.func (FuncData.mk (Str.ofString "cut_quotient") (Str.ofString "cut_quotient") aP17 (FuncBody.stmts aB17) aS17 0 [] Value.none Value.none Value.none Value.none Option.none Value.none Value.none 0)) #[] :: Obj.mk (Value.type "code") Option.none (Data.fields #[Value.str (Str.ofString "cut_quotient") 349, Value.str (Str.ofString "cut_quotient") 350, Value.str (Str.ofString "/claim/cut.py") 351, Value.int 60 0, Value.int 2 0, Value.int 0 0, Value.int 0 0, Value.int 3 0, Value.ref 125, Value.bool Bool.true, Value.int 181 0, Value.ref 126, Value.none, Value.ref 127, Value.ref 128, Value.ref 129, Value.int 354 0, Value.int 60 0, Value.str (Str.ofString "/claim/cut.py") 355]) #[] :: Obj.mk (Value.type "function") Option.none (Data.func (FuncData.mk (Str.ofString "cut_quotient") (Str.ofString "cut_quotient") aP17 (FuncBody.stmts aB17) aS17 3 [] Value.none Value.none Value.none (Value.str (Str.ofString "ledgerspeak.decimals") 341) Option.none (Value.ref 130) Value.none 0)) #[] :: Obj.mk (Value.type "tuple") Option.none (Data.seq #[Value.int 0 357] 0) #[] :: Obj.mk (Value.type "tuple") Option.none (Data.seq #[] 0) #[] :: Obj.mk Value.none Option.none (Data.fields #[]) #[] :: Obj.mk (Value.type "tuple") Option.none (Data.seq #[Value.str (Str.ofString "units") 361, Value.str (Str.ofString "scale") 362] 0) #[] :: Obj.mk (Value.type "tuple") Option.none (Data.seq #[] 0) #[] :: Obj.mk Value.none Option.none (Data.func (FuncData.mk (Str.ofString "decimal") (Str.ofString "decimal") aP19 (FuncBody.stmts aB19) aS19 0 [] Value.none Value.none Value.none Value.none Option.none Value.none Value.none 0)) #[] :: Obj.mk (Value.type "code") Option.none (Data.fields #[Value.str (Str.ofString "decimal") 358, Value.str (Str.ofString "decimal") 359, Value.str (Str.ofString "/claim/cut.py") 360, Value.int 64 0, Value.int 2 0, Value.int 0 0, Value.int 0 0, Value.int 3 0, Value.ref 133, Value.bool Bool.true, Value.int 181 0, Value.ref 134, Value.none, Value.ref 135, Value.ref 136, Value.ref 137, Value.int 363 0, Value.int 64 0, Value.str (Str.ofString "/claim/cut.py") 364]) #[] :: Obj.mk (Value.type "function") Option.none (Data.func (FuncData.mk (Str.ofString "decimal") (Str.ofString "decimal") aP19 (FuncBody.stmts aB19) aS19 3 [] (Value.ref 132) Value.none Value.none (Value.str (Str.ofString "ledgerspeak.decimals") 341) Option.none (Value.ref 138) Value.none 0)) #[] :: Obj.mk (Value.type "tuple") Option.none (Data.seq #[] 0) #[] :: Obj.mk Value.none Option.none (Data.fields #[]) #[] :: Obj.mk (Value.type "tuple") Option.none (Data.seq #[Value.str (Str.ofString "units") 369, Value.str (Str.ofString "scale") 370] 0) #[] :: Obj.mk (Value.type "tuple") Option.none (Data.seq #[] 0) #[] :: Obj.mk Value.none Option.none (Data.func (FuncData.mk (Str.ofString "kept") (Str.ofString "kept") aP32 (FuncBody.stmts aB32) aS32 0 [] Value.none Value.none Value.none Value.none Option.none Value.none Value.none 0)) #[] :: Obj.mk (Value.type "code") Option.none (Data.fields #[Value.str (Str.ofString "kept") 366, Value.str (Str.ofString "kept") 367, Value.str (Str.ofString "/claim/cut.py") 368, Value.int 71 0, Value.int 2 0, Value.int 0 0, Value.int 0 0, Value.int 3 0, Value.ref 140, Value.bool Bool.true, Value.int 181 0, Value.ref 141, Value.none, Value.ref 142, Value.ref 143, Value.ref 144, Value.int 371 0, Value.int 71 0, Value.str (Str.ofString "/claim/cut.py") 372]) #[] :: Obj.mk (Value.type "function") Option.none (Data.func (FuncData.mk (Str.ofString "kept") (Str.ofString "kept") aP32 (FuncBody.stmts aB32) aS32 3 [] Value.none Value.none Value.none (Value.str (Str.ofString "ledgerspeak.decimals") 341) Option.none (Value.ref 145) Value.none 0)) #[] :: Obj.mk (Value.type "tuple") Option.none (Data.seq #[] 0) #[] :: Obj.mk Value.none Option.none (Data.fields #[]) #[] :: Obj.mk (Value.type "tuple") Option.none (Data.seq #[Value.str (Str.ofString "a") 377, Value.str (Str.ofString "b") 378, Value.str (Str.ofString "scale") 379] 0) #[] :: Obj.mk (Value.type "tuple") Option.none (Data.seq #[] 0) #[] :: Obj.mk Value.none Option.none (Data.func (FuncData.mk (Str.ofString "units_beside") (Str.ofString "units_beside") aP15 (FuncBody.stmts aB15) aS15 0 [] Value.none Value.none Value.none Value.none Option.none Value.none Value.none 0)) #[] :: Obj.mk (Value.type "code") Option.none (Data.fields #[Value.str (Str.ofString "units_beside") 374, Value.str (Str.ofString "units_beside") 375, Value.str (Str.ofString "/claim/cut.py") 376, Value.int 78 0, Value.int 2 0, Value.int 0 0, Value.int 0 0, Value.int 3 0, Value.ref 147, Value.bool Bool.true, Value.int 181 0, Value.ref 148, Value.none, Value.ref 149, Value.ref 150, Value.ref 151, Value.int 380 0, Value.int 78 0, Value.str (Str.ofString "/claim/cut.py") 381]) #[] :: Obj.mk (Value.type "function") Option.none (Data.func (FuncData.mk (Str.ofString "units_beside") (Str.ofString "units_beside") aP15 (FuncBody.stmts aB15) aS15 3 [] Value.none Value.none Value.none (Value.str (Str.ofString "ledgerspeak.decimals") 341) Option.none (Value.ref 152) Value.none 0)) #[] :: Obj.mk (Value.type "tuple") Option.none (Data.seq #[] 0) #[] :: Obj.mk Value.none Option.none (Data.fields #[]) #[] :: Obj.mk (Value.type "tuple") Option.none (Data.seq #[Value.str (Str.ofString "a") 386, Value.str (Str.ofString "b") 387, Value.str (Str.ofString "first") 388, Value.str (Str.ofString "second") 389, Value.str (Str.ofString "scale") 390] 0) #[] :: Obj.mk (Value.type "tuple") Option.none (Data.seq #[] 0) #[] :: Obj.mk Value.none Option.none (Data.func (FuncData.mk (Str.ofString "plus") (Str.ofString "plus") aP30 (FuncBody.stmts aB30) aS14 0 [] Value.none Value.none Value.none Value.none Option.none Value.none Value.none 0)) #[] :: Obj.mk (Value.type "code") Option.none (Data.fields #[Value.str (Str.ofString "plus") 383, Value.str (Str.ofString "plus") 384, Value.str (Str.ofString "/claim/cut.py") 385, Value.int 81 0, Value.int 2 0, Value.int 0 0, Value.int 0 0, Value.int 3 0, Value.ref 154, Value.bool Bool.true, Value.int 181 0, Value.ref 155, Value.none, Value.ref 156, Value.ref 157, Value.ref 158, Value.int 391 0, Value.int 81 0, Value.str (Str.ofString "/claim/cut.py") 392]) #[] :: Obj.mk (Value.type "function") Option.none (Data.func (FuncData.mk (Str.ofString "plus") (Str.ofString "plus") aP30 (FuncBody.stmts aB30) aS14 3 [] Value.none Value.none Value.none (Value.str (Str.ofString "ledgerspeak.decimals") 341) Option.none (Value.ref 159) Value.none 0)) #[] :: Obj.mk (Value.type "tuple") Option.none (Data.seq #[] 0) #[] :: Obj.mk Value.none Option.none (Data.fields #[]) #[] :: Obj.mk (Value.type "tuple") Option.none (Data.seq #[Value.str (Str.ofString "a") 397, Value.str (Str.ofString "b") 398, Value.str (Str.ofString "first") 399, Value.str (Str.ofString "second") 400, Value.str (Str.ofString "scale") 401] 0) #[] :: Obj.mk (Value.type "tuple") Option.none (Data.seq #[] 0) #[] :: Obj.mk Value.none Option.none (Data.func (FuncData.mk (Str.ofString "minus") (Str.ofString "minus") aP14 (FuncBody.stmts aB14) aS14 0 [] Value.none Value.none Value.none Value.none Option.none Value.none Value.none 0)) #[] :: Obj.mk (Value.type "code") Option.none (Data.fields #[Value.str (Str.ofString "minus") 394, Value.str (Str.ofString "minus") 395, Value.str (Str.ofString "/claim/cut.py") 396, Value.int 84 0, Value.int 2 0, Value.int 0 0, Value.int 0 0, Value.int 3 0, Value.ref 161, Value.bool Bool.true, Value.int 181 0, Value.ref 162, Value.none, Value.ref 163, Value.ref 164, Value.ref 165, Value.int 402 0, Value.int 84 0, Value.str (Str.ofString "/claim/cut.py") 403]) #[] :: Obj.mk (Value.type "function") Option.none (Data.func (FuncData.mk (Str.ofString "minus") (Str.ofString "minus") aP14 (FuncBody.stmts aB14) aS14 3 [] Value.none Value.none Value.none (Value.str (Str.ofString "ledgerspeak.decimals") 341) Option.none (Value.ref 166) Value.none 0)) #[] :: Obj.mk (Value.type "tuple") Option.none (Data.seq #[] 0) #[] :: Obj.mk Value.none Option.none (Data.fields #[]) #[] :: Obj.mk (Value.type "tuple") Option.none (Data.seq #[Value.str (Str.ofString "a") 408, Value.str (Str.ofString "b") 409] 0) #[] :: Obj.mk (Value.type "tuple") Option.none (Data.seq #[] 0) #[] :: Obj.mk Value.none Option.none (Data.func (FuncData.mk (Str.ofString "times") (Str.ofString "times") aP35 (FuncBody.stmts aB35) aS35 0 [] Value.none Value.none Value.none Value.none Option.none Value.none Value.none 0)) #[] :: Obj.mk (Value.type "code") Option.none (Data.fields #[Value.str (Str.ofString "times") 405, Value.str (Str.ofString "times") 406, Value.str (Str.ofString "/claim/cut.py") 407, Value.int 87 0, Value.int 2 0, Value.int 0 0, Value.int 0 0, Value.int 3 0, Value.ref 168, Value.bool Bool.true, Value.int 181 0, Value.ref 169, Value.none, Value.ref 170, Value.ref 171, Value.ref 172, Value.int 410 0, Value.int 87 0, Value.str (Str.ofString "/claim/cut.py") 411]) #[] :: Obj.mk (Value.type "function") Option.none (Data.func (FuncData.mk (Str.ofString "times") (Str.ofString "times") aP35 (FuncBody.stmts aB35) aS35 3 [] Value.none Value.none Value.none (Value.str (Str.ofString "ledgerspeak.decimals") 341) Option.none (Value.ref 173) Value.none 0)) #[] :: Obj.mk (Value.type "tuple") Option.none (Data.seq #[] 0) #[] :: Obj.mk Value.none Option.none (Data.fields #[]) #[] :: Obj.mk (Value.type "tuple") Option.none (Data.seq #[Value.str (Str.ofString "a") 416] 0) #[] :: Obj.mk (Value.type "tuple") Option.none (Data.seq #[] 0) #[] :: Obj.mk Value.none Option.none (Data.func (FuncData.mk (Str.ofString "negated") (Str.ofString "negated") aP18 (FuncBody.stmts aB18) aS18 0 [] Value.none Value.none Value.none Value.none Option.none Value.none Value.none 0)) #[] :: Obj.mk (Value.type "code") Option.none (Data.fields #[Value.str (Str.ofString "negated") 413, Value.str (Str.ofString "negated") 414, Value.str (Str.ofString "/claim/cut.py") 415, Value.int 89 0, Value.int 1 0, Value.int 0 0, Value.int 0 0, Value.int 3 0, Value.ref 175, Value.bool Bool.true, Value.int 181 0, Value.ref 176, Value.none, Value.ref 177, Value.ref 178, Value.ref 179, Value.int 417 0, Value.int 89 0, Value.str (Str.ofString "/claim/cut.py") 418]) #[] :: Obj.mk (Value.type "function") Option.none (Data.func (FuncData.mk (Str.ofString "negated") (Str.ofString "negated") aP18 (FuncBody.stmts aB18) aS18 3 [] Value.none Value.none Value.none (Value.str (Str.ofString "ledgerspeak.decimals") 341) Option.none (Value.ref 180) Value.none 0)) #[] :: Obj.mk (Value.type "tuple") Option.none (Data.seq #[Value.int 30 343] 0) #[] :: Obj.mk (Value.type "tuple") Option.none (Data.seq #[] 0) #[] :: Obj.mk Value.none Option.none (Data.fields #[]) #[] :: Obj.mk (Value.type "tuple") Option.none (Data.seq #[Value.str (Str.ofString "a") 423, Value.str (Str.ofString "b") 424, Value.str (Str.ofString "many") 425] 0) #[] :: Obj.mk (Value.type "tuple") Option.none (Data.seq #[] 0) #[] :: Obj.mk Value.none Option.none (Data.func (FuncData.mk (Str.ofString "quotient") (Str.ofString "quotient") aP21 (FuncBody.stmts aB21) aS21 0 [] Value.none Value.none Value.none Value.none Option.none Value.none Value.none 0)) #[] :: Obj.mk (Value.type "code") Option.none (Data.fields #[Value.str (Str.ofString "quotient") 420, Value.str (Str.ofString "quotient") 421, Value.str (Str.ofString "/claim/cut.py") 422, Value.int 91 0, Value.int 3 0, Value.int 0 0, Value.int 0 0, Value.int 3 0, Value.ref 183, Value.bool Bool.true, Value.int 181 0, Value.ref 184, Value.none, Value.ref 185, Value.ref 186, Value.ref 187, Value.int 426 0, Value.int 91 0, Value.str (Str.ofString "/claim/cut.py") 427]) #[] :: Obj.mk (Value.type "function") Option.none (Data.func (FuncData.mk (Str.ofString "quotient") (Str.ofString "quotient") aP21 (FuncBody.stmts aB21) aS21 3 [] (Value.ref 182) Value.none Value.none (Value.str (Str.ofString "ledgerspeak.decimals") 341) Option.none (Value.ref 188) Value.none 0)) #[] :: Obj.mk (Value.type "tuple") Option.none (Data.seq #[] 0) #[] :: Obj.mk Value.none Option.none (Data.fields #[]) #[] :: Obj.mk (Value.type "tuple") Option.none (Data.seq #[Value.str (Str.ofString "a") 432, Value.str (Str.ofString "b") 433, Value.str (Str.ofString "found") 434, Value.str (Str.ofString "turn") 435] 0) #[] :: Obj.mk (Value.type "tuple") Option.none (Data.seq #[] 0) #[] :: Obj.mk Value.none Option.none (Data.func (FuncData.mk (Str.ofString "power") (Str.ofString "power") aP34 (FuncBody.stmts aB34) aS34 0 [] Value.none Value.none Value.none Value.none Option.none Value.none Value.none 0)) #[] :: Obj.mk (Value.type "code") Option.none (Data.fields #[Value.str (Str.ofString "power") 429, Value.str (Str.ofString "power") 430, Value.str (Str.ofString "/claim/cut.py") 431, Value.int 95 0, Value.int 2 0, Value.int 0 0, Value.int 0 0, Value.int 3 0, Value.ref 190, Value.bool Bool.true, Value.int 181 0, Value.ref 191, Value.none, Value.ref 192, Value.ref 193, Value.ref 194, Value.int 436 0, Value.int 95 0, Value.str (Str.ofString "/claim/cut.py") 437]) #[] :: Obj.mk (Value.type "function") Option.none (Data.func (FuncData.mk (Str.ofString "power") (Str.ofString "power") aP34 (FuncBody.stmts aB34) aS34 3 [] Value.none Value.none Value.none (Value.str (Str.ofString "ledgerspeak.decimals") 341) Option.none (Value.ref 195) Value.none 0)) #[] :: Obj.mk (Value.type "tuple") Option.none (Data.seq #[] 0) #[] :: Obj.mk Value.none Option.none (Data.fields #[]) #[] :: Obj.mk (Value.type "tuple") Option.none (Data.seq #[Value.str (Str.ofString "a") 442, Value.str (Str.ofString "scale") 443, Value.str (Str.ofString "is_rounded") 444, Value.str (Str.ofString "size") 445, Value.str (Str.ofString "half") 446] 0) #[] :: Obj.mk (Value.type "tuple") Option.none (Data.seq #[] 0) #[] :: Obj.mk Value.none Option.none (Data.func (FuncData.mk (Str.ofString "units_at") (Str.ofString "units_at") aP20 (FuncBody.stmts aB20) aS20 0 [] Value.none Value.none Value.none Value.none Option.none Value.none Value.none 0)) #[] :: Obj.mk (Value.type "code") Option.none (Data.fields #[Value.str (Str.ofString "units_at") 439, Value.str (Str.ofString "units_at") 440, Value.str (Str.ofString "/claim/cut.py") 441, Value.int 104 0, Value.int 3 0, Value.int 0 0, Value.int 0 0, Value.int 3 0, Value.ref 197, Value.bool Bool.true, Value.int 181 0, Value.ref 198, Value.none, Value.ref 199, Value.ref 200, Value.ref 201, Value.int 447 0, Value.int 104 0, Value.str (Str.ofString "/claim/cut.py") 448]) #[] :: Obj.mk (Value.type "function") Option.none (Data.func (FuncData.mk (Str.ofString "units_at") (Str.ofString "units_at") aP20 (FuncBody.stmts aB20) aS20 3 [] Value.none Value.none Value.none (Value.str (Str.ofString "ledgerspeak.decimals") 341) Option.none (Value.ref 202) Value.none 0)) #[] :: Obj.mk (Value.type "tuple") Option.none (Data.seq #[] 0) #[] :: Obj.mk Value.none Option.none (Data.fields #[]) #[] :: Obj.mk (Value.type "tuple") Option.none (Data.seq #[Value.str (Str.ofString "a") 453] 0) #[] :: Obj.mk (Value.type "tuple") Option.none (Data.seq #[] 0) #[] :: Obj.mk Value.none Option.none (Data.func (FuncData.mk (Str.ofString "is_whole") (Str.ofString "is_whole") aP33 (FuncBody.stmts aB33) aS18 0 [] Value.none Value.none Value.none Value.none Option.none Value.none Value.none 0)) #[] :: Obj.mk (Value.type "code") Option.none (Data.fields #[Value.str (Str.ofString "is_whole") 450, Value.str (Str.ofString "is_whole") 451, Value.str (Str.ofString "/claim/cut.py") 452, Value.int 112 0, Value.int 1 0, Value.int 0 0, Value.int 0 0, Value.int 3 0, Value.ref 204, Value.bool Bool.true, Value.int 181 0, Value.ref 205, Value.none, Value.ref 206, Value.ref 207, Value.ref 208, Value.int 454 0, Value.int 112 0, Value.str (Str.ofString "/claim/cut.py") 455]) #[] :: Obj.mk (Value.type "function") Option.none (Data.func (FuncData.mk (Str.ofString "is_whole") (Str.ofString "is_whole") aP33 (FuncBody.stmts aB33) aS18 3 [] Value.none Value.none Value.none (Value.str (Str.ofString "ledgerspeak.decimals") 341) Option.none (Value.ref 209) Value.none 0)) #[] :: Obj.mk (Value.type "tuple") Option.none (Data.seq #[] 0) #[] :: Obj.mk Value.none Option.none (Data.fields #[]) #[] :: Obj.mk (Value.type "tuple") Option.none (Data.seq #[Value.str (Str.ofString "a") 460] 0) #[] :: Obj.mk (Value.type "tuple") Option.none (Data.seq #[] 0) #[] :: Obj.mk Value.none Option.none (Data.func (FuncData.mk (Str.ofString "whole_of") (Str.ofString "whole_of") aP16 (FuncBody.stmts aB16) aS16 0 [] Value.none Value.none Value.none Value.none Option.none Value.none Value.none 0)) #[] :: Obj.mk (Value.type "code") Option.none (Data.fields #[Value.str (Str.ofString "whole_of") 457, Value.str (Str.ofString "whole_of") 458, Value.str (Str.ofString "/claim/cut.py") 459, Value.int 114 0, Value.int 1 0, Value.int 0 0, Value.int 0 0, Value.int 3 0, Value.ref 211, Value.bool Bool.true, Value.int 181 0, Value.ref 212, Value.none, Value.ref 213, Value.ref 214, Value.ref 215, Value.int 461 0, Value.int 114 0, Value.str (Str.ofString "/claim/cut.py") 462]) #[] :: Obj.mk (Value.type "function") Option.none (Data.func (FuncData.mk (Str.ofString "whole_of") (Str.ofString "whole_of") aP16 (FuncBody.stmts aB16) aS16 3 [] Value.none Value.none Value.none (Value.str (Str.ofString "ledgerspeak.decimals") 341) Option.none (Value.ref 216) Value.none 0)) #[] :: Obj.mk (Value.type "tuple") Option.none (Data.seq #[] 0) #[] :: Obj.mk Value.none Option.none (Data.fields #[]) #[] :: Obj.mk (Value.type "tuple") Option.none (Data.seq #[Value.str (Str.ofString "units") 467, Value.str (Str.ofString "digits") 468] 0) #[] :: Obj.mk (Value.type "tuple") Option.none (Data.seq #[] 0) #[] :: Obj.mk Value.none Option.none (Data.func (FuncData.mk (Str.ofString "fits") (Str.ofString "fits") aP31 (FuncBody.stmts aB31) aS31 0 [] Value.none Value.none Value.none Value.none Option.none Value.none Value.none 0)) #[] :: Obj.mk (Value.type "code") Option.none (Data.fields #[Value.str (Str.ofString "fits") 464, Value.str (Str.ofString "fits") 465, Value.str (Str.ofString "/claim/cut.py") 466, Value.int 116 0, Value.int 2 0, Value.int 0 0, Value.int 0 0, Value.int 3 0, Value.ref 218, Value.bool Bool.true, Value.int 181 0, Value.ref 219, Value.none, Value.ref 220, Value.ref 221, Value.ref 222, Value.int 469 0, Value.int 116 0, Value.str (Str.ofString "/claim/cut.py") 470]) #[] :: Obj.mk (Value.type "function") Option.none (Data.func (FuncData.mk (Str.ofString "fits") (Str.ofString "fits") aP31 (FuncBody.stmts aB31) aS31 3 [] Value.none Value.none Value.none (Value.str (Str.ofString "ledgerspeak.decimals") 341) Option.none (Value.ref 223) Value.none 0)) #[] :: Obj.mk (Value.type "tuple") Option.none (Data.seq #[] 0) #[] :: Obj.mk (Value.type "builtin_function_or_method") Option.none (Data.fields #[Value.builtin "type.__prepare__", Value.type "type"]) #[] :: Obj.mk (Value.type "dict") Option.none (Data.dict #[DictEntry.mk (PyData.keyHash P (Str.ofString "__module__")) (Value.str (Str.ofString "__module__") 486) (Value.str (Str.ofString "ledgerspeak.machine") 472), DictEntry.mk (PyData.keyHash P (Str.ofString "__qualname__")) (Value.str (Str.ofString "__qualname__") 488) (Value.str (Str.ofString "Frame") 487), DictEntry.mk (PyData.keyHash P (Str.ofString "__firstlineno__")) (Value.str (Str.ofString "__firstlineno__") 490) (Value.int 121 489), DictEntry.mk (PyData.keyHash P (Str.ofString "__init__")) (Value.str (Str.ofString "__init__") 499) (Value.ref 238), DictEntry.mk (PyData.keyHash P (Str.ofString "__static_attributes__")) (Value.str (Str.ofString "__static_attributes__") 503) (Value.ref 239)] 5) #[] :: Obj.mk (Value.type "tuple") Option.none (Data.seq #[] 0) #[] :: Obj.mk Value.none Option.none (Data.fields #[Value.int 123 0, Value.int 4 0, Value.ref 237]) #[] :: Obj.mk (Value.type "code") Option.none (Data.fields #[Value.str (Str.ofString "Frame") 481, Value.str (Str.ofString "Frame") 482, Value.str (Str.ofString "/claim/cut.py") 483, Value.int 121 0, Value.int 0 0, Value.int 0 0, Value.int 0 0, Value.int 0 0, Value.ref 228, Value.bool Bool.false, Value.int 181 0, Value.ref 229, Value.none, Value.none, Value.none, Value.none, Value.int 484 0, Value.int 121 0, Value.str (Str.ofString "/claim/cut.py") 485]) #[] :: Obj.mk (Value.type "frame") Option.none Data.plain #[Option.some (Value.ref 230), Option.some (Value.ref 3), Option.some (Value.ref 227), Option.none, Option.some (Value.str (Str.ofString "ledgerspeak.machine") 472), Option.none, Option.some (Value.ref 0)] :: Obj.mk (Value.type "tuple") Option.none (Data.seq #[] 0) #[] :: Obj.mk Value.none Option.none (Data.fields #[]) #[] :: Obj.mk (Value.type "tuple") Option.none (Data.seq #[Value.str (Str.ofString "self") 494, Value.str (Str.ofString "last") 495, Value.str (Str.ofString "behind") 496] 0) #[] :: Obj.mk (Value.type "tuple") Option.none (Data.seq #[] 0) #[] :: Obj.mk Value.none Option.none (Data.func (FuncData.mk (Str.ofString "__init__") (Str.ofString "Frame.__init__") aP51 (FuncBody.stmts aB51) aS51 0 [] Value.none Value.none Value.none Value.none Option.none Value.none Value.none 0)) #[] :: Obj.mk (Value.type "code") Option.none (Data.fields #[Value.str (Str.ofString "__init__") 491, Value.str (Str.ofString "Frame.__init__") 492, Value.str (Str.ofString "/claim/cut.py") 493, Value.int 123 0, Value.int 3 0, Value.int 0 0, Value.int 0 0, Value.int 3 0, Value.ref 232, Value.bool Bool.true, Value.int 181 0, Value.ref 233, Value.none, Value.ref 234, Value.ref 235, Value.ref 236, Value.int 497 0, Value.int 123 0, Value.str (Str.ofString "/claim/cut.py") 498]) #[] :: Obj.mk (Value.type "function") Option.none (Data.func (FuncData.mk (Str.ofString "__init__") (Str.ofString "Frame.__init__") aP51 (FuncBody.stmts aB51) aS51 3 [] Value.none Value.none Value.none (Value.str (Str.ofString "ledgerspeak.machine") 472) Option.none (Value.ref 237) Value.none 0)) #[] :: Obj.mk (Value.type "tuple") Option.none (Data.seq #[Value.str (Str.ofString "behind") 500, Value.str (Str.ofString "last") 501, Value.str (Str.ofString "slots") 502] 0) #[] :: Obj.mk (Value.type "dict") Option.none (Data.dict #[DictEntry.mk (PyData.keyHash P (Str.ofString "__module__")) (Value.str (Str.ofString "__module__") 486) (Value.str (Str.ofString "ledgerspeak.machine") 472), DictEntry.mk (PyData.keyHash P (Str.ofString "__firstlineno__")) (Value.str (Str.ofString "__firstlineno__") 490) (Value.int 121 489), DictEntry.mk (PyData.keyHash P (Str.ofString "__init__")) (Value.str (Str.ofString "__init__") 499) (Value.ref 238), DictEntry.mk (PyData.keyHash P (Str.ofString "__static_attributes__")) (Value.str (Str.ofString "__static_attributes__") 503) (Value.ref 239), DictEntry.mk (PyData.keyHash P (Str.ofString "__dict__")) (Value.str (Str.ofString "__dict__") 505) (Value.ref 242), DictEntry.mk (PyData.keyHash P (Str.ofString "__weakref__")) (Value.str (Str.ofString "__weakref__") 507) (Value.ref 243), DictEntry.mk (PyData.keyHash P (Str.ofString "__doc__")) (Value.str (Str.ofString "__doc__") 508) Value.none] 4) #[] :: Obj.mk (Value.type "type") Option.none (Data.cls (ClassData.mk (Str.ofString "Frame") [Value.type "object"] [Value.ref 241, Value.type "object"] 240 (Str.ofString "Frame") Bool.true [] [] Bool.false Option.none Bool.false)) #[Option.none, Option.none, Option.some (Value.str (Str.ofString "Frame") 479), Option.some (Value.str (Str.ofString "Frame") 487), Option.some (Value.builtin "object.__new__"), Option.some (Value.bool Bool.true)] :: Obj.mk (Value.type "getset_descriptor") Option.none (Data.fields #[Value.str (Str.ofString "__dict__") 504, Value.ref 241, Value.builtin "function.__dict__", Value.builtin "function.__dict__#set"]) #[] :: Obj.mk (Value.type "getset_descriptor") Option.none (Data.fields #[Value.str (Str.ofString "__weakref__") 506, Value.ref 241, Value.builtin "ExceptionGroup.__weakref__", Value.none]) #[] :: Obj.mk (Value.type "super") Option.none (Data.fields #[Value.ref 241, Value.ref 241, Value.ref 241]) #[] :: Obj.mk (Value.type "builtin_function_or_method") Option.none (Data.fields #[Value.builtin "object.__init_subclass__", Value.ref 241]) #[] :: Obj.mk (Value.type "tuple") Option.none (Data.seq #[] 0) #[] :: Obj.mk (Value.type "builtin_function_or_method") Option.none (Data.fields #[Value.builtin "type.__prepare__", Value.type "type"]) #[] :: Obj.mk (Value.type "dict") Option.none (Data.dict #[DictEntry.mk (PyData.keyHash P (Str.ofString "__module__")) (Value.str (Str.ofString "__module__") 518) (Value.str (Str.ofString "ledgerspeak.machine") 472), DictEntry.mk (PyData.keyHash P (Str.ofString "__qualname__")) (Value.str (Str.ofString "__qualname__") 520) (Value.str (Str.ofString "Machine") 519), DictEntry.mk (PyData.keyHash P (Str.ofString "__firstlineno__")) (Value.str (Str.ofString "__firstlineno__") 522) (Value.int 127 521), DictEntry.mk (PyData.keyHash P (Str.ofString "__init__")) (Value.str (Str.ofString "__init__") 531) (Value.ref 259), DictEntry.mk (PyData.keyHash P (Str.ofString "give_up")) (Value.str (Str.ofString "give_up") 539) (Value.ref 266), DictEntry.mk (PyData.keyHash P (Str.ofString "__static_attributes__")) (Value.str (Str.ofString "__static_attributes__") 547) (Value.ref 267)] 6) #[] :: Obj.mk (Value.type "tuple") Option.none (Data.seq #[] 0) #[] :: Obj.mk Value.none Option.none (Data.fields #[Value.int 129 0, Value.int 4 0, Value.ref 258, Value.int 138 0, Value.int 4 0, Value.ref 265]) #[] :: Obj.mk (Value.type "code") Option.none (Data.fields #[Value.str (Str.ofString "Machine") 513, Value.str (Str.ofString "Machine") 514, Value.str (Str.ofString "/claim/cut.py") 515, Value.int 127 0, Value.int 0 0, Value.int 0 0, Value.int 0 0, Value.int 0 0, Value.ref 249, Value.bool Bool.false, Value.int 181 0, Value.ref 250, Value.none, Value.none, Value.none, Value.none, Value.int 516 0, Value.int 127 0, Value.str (Str.ofString "/claim/cut.py") 517]) #[] :: Obj.mk (Value.type "frame") Option.none Data.plain #[Option.some (Value.ref 251), Option.some (Value.ref 3), Option.some (Value.ref 248), Option.none, Option.some (Value.str (Str.ofString "ledgerspeak.machine") 472), Option.none, Option.some (Value.ref 0)] :: Obj.mk (Value.type "tuple") Option.none (Data.seq #[] 0) #[] :: Obj.mk Value.none Option.none (Data.fields #[]) #[] :: Obj.mk (Value.type "tuple") Option.none (Data.seq #[Value.str (Str.ofString "self") 526, Value.str (Str.ofString "code") 527, Value.str (Str.ofString "deeds") 528] 0) #[] :: Obj.mk (Value.type "tuple") Option.none (Data.seq #[] 0) #[] :: Obj.mk Value.none Option.none (Data.func (FuncData.mk (Str.ofString "__init__") (Str.ofString "Machine.__init__") aP43 (FuncBody.stmts aB43) aS43 0 [] Value.none Value.none Value.none Value.none Option.none Value.none Value.none 0)) #[] :: Obj.mk (Value.type "code") Option.none (Data.fields #[Value.str (Str.ofString "__init__") 523, Value.str (Str.ofString "Machine.__init__") 524, Value.str (Str.ofString "/claim/cut.py") 525, Value.int 129 0, Value.int 3 0, Value.int 0 0, Value.int 0 0, Value.int 3 0, Value.ref 253, Value.bool Bool.true, Value.int 181 0, Value.ref 254, Value.none, Value.ref 255, Value.ref 256, Value.ref 257, Value.int 529 0, Value.int 129 0, Value.str (Str.ofString "/claim/cut.py") 530]) #[] :: Obj.mk (Value.type "function") Option.none (Data.func (FuncData.mk (Str.ofString "__init__") (Str.ofString "Machine.__init__") aP43 (FuncBody.stmts aB43) aS43 3 [] Value.none Value.none Value.none (Value.str (Str.ofString "ledgerspeak.machine") 472) Option.none (Value.ref 258) Value.none 0)) #[] :: Obj.mk (Value.type "tuple") Option.none (Data.seq #[] 0) #[] :: Obj.mk Value.none Option.none (Data.fields #[]) #[] :: Obj.mk (Value.type "tuple") Option.none (Data.seq #[Value.str (Str.ofString "self") 535, Value.str (Str.ofString "label") 536] 0) #[] :: Obj.mk (Value.type "tuple") Option.none (Data.seq #[] 0) #[] :: Obj.mk Value.none Option.none (Data.func (FuncData.mk (Str.ofString "give_up") (Str.ofString "Machine.give_up") aP48 (FuncBody.stmts aB48) aS48 0 [] Value.none Value.none Value.none Value.none Option.none Value.none Value.none 0)) #[] :: Obj.mk (Value.type "code") Option.none (Data.fields #[Value.str (Str.ofString "give_up") 532, Value.str (Str.ofString "Machine.give_up") 533, Value.str (Str.ofString "/claim/cut.py") 534, Value.int 138 0, Value.int 2 0, Value.int 0 0, Value.int 0 0, Value.int 3 0, Value.ref 260, Value.bool Bool.true, Value.int 181 0, Value.ref 261, Value.none, Value.ref 262, Value.ref 263, Value.ref 264, Value.int 537 0, Value.int 138 0, Value.str (Str.ofString "/claim/cut.py") 538]) #[] :: Obj.mk (Value.type "function") Option.none (Data.func (FuncData.mk (Str.ofString "give_up") (Str.ofString "Machine.give_up") aP48 (FuncBody.stmts aB48) aS48 3 [] Value.none Value.none Value.none (Value.str (Str.ofString "ledgerspeak.machine") 472) Option.none (Value.ref 265) Value.none 0)) #[] :: Obj.mk (Value.type "tuple") Option.none (Data.seq #[Value.str (Str.ofString "code") 540, Value.str (Str.ofString "deeds") 541, Value.str (Str.ofString "frames") 542, Value.str (Str.ofString "key") 543, Value.str (Str.ofString "place") 544, Value.str (Str.ofString "stack") 545, Value.str (Str.ofString "word") 546] 0) #[] :: Obj.mk (Value.type "dict") Option.none (Data.dict #[DictEntry.mk (PyData.keyHash P (Str.ofString "__module__")) (Value.str (Str.ofString "__module__") 518) (Value.str (Str.ofString "ledgerspeak.machine") 472), DictEntry.mk (PyData.keyHash P (Str.ofString "__firstlineno__")) (Value.str (Str.ofString "__firstlineno__") 522) (Value.int 127 521), DictEntry.mk (PyData.keyHash P (Str.ofString "__init__")) (Value.str (Str.ofString "__init__") 531) (Value.ref 259), DictEntry.mk (PyData.keyHash P (Str.ofString "give_up")) (Value.str (Str.ofString "give_up") 539) (Value.ref 266), DictEntry.mk (PyData.keyHash P (Str.ofString "__static_attributes__")) (Value.str (Str.ofString "__static_attributes__") 547) (Value.ref 267), DictEntry.mk (PyData.keyHash P (Str.ofString "__dict__")) (Value.str (Str.ofString "__dict__") 549) (Value.ref 270), DictEntry.mk (PyData.keyHash P (Str.ofString "__weakref__")) (Value.str (Str.ofString "__weakref__") 551) (Value.ref 271), DictEntry.mk (PyData.keyHash P (Str.ofString "__doc__")) (Value.str (Str.ofString "__doc__") 552) Value.none] 4) #[] :: Obj.mk (Value.type "type") Option.none (Data.cls (ClassData.mk (Str.ofString "Machine") [Value.type "object"] [Value.ref 269, Value.type "object"] 268 (Str.ofString "Machine") Bool.true [] [] Bool.false Option.none Bool.false)) #[Option.none, Option.none, Option.some (Value.str (Str.ofString "Machine") 511), Option.some (Value.str (Str.ofString "Machine") 519), Option.some (Value.builtin "object.__new__"), Option.some (Value.bool Bool.true)] :: Obj.mk (Value.type "getset_descriptor") Option.none (Data.fields #[Value.str (Str.ofString "__dict__") 548, Value.ref 269, Value.builtin "function.__dict__", Value.builtin "function.__dict__#set"]) #[] :: Obj.mk (Value.type "getset_descriptor") Option.none (Data.fields #[Value.str (Str.ofString "__weakref__") 550, Value.ref 269, Value.builtin "ExceptionGroup.__weakref__", Value.none]) #[] :: Obj.mk (Value.type "super") Option.none (Data.fields #[Value.ref 269, Value.ref 269, Value.ref 269]) #[] :: Obj.mk (Value.type "builtin_function_or_method") Option.none (Data.fields #[Value.builtin "object.__init_subclass__", Value.ref 269]) #[] :: Obj.mk (Value.type "tuple") Option.none (Data.seq #[] 0) #[] :: Obj.mk Value.none Option.none (Data.fields #[]) #[] :: Obj.mk (Value.type "tuple") Option.none (Data.seq #[Value.str (Str.ofString "sign") 558, Value.str (Str.ofString "a") 559, Value.str (Str.ofString "b") 560] 0) #[] :: Obj.mk (Value.type "tuple") Option.none (Data.seq #[] 0) #[] :: Obj.mk Value.none Option.none (Data.func (FuncData.mk (Str.ofString "calculated") (Str.ofString "calculated") aP49 (FuncBody.stmts aB49) aS49 0 [] Value.none Value.none Value.none Value.none Option.none Value.none Value.none 0)) #[] :: Obj.mk (Value.type "code") Option.none (Data.fields #[Value.str (Str.ofString "calculated") 555, Value.str (Str.ofString "calculated") 556, Value.str (Str.ofString "/claim/cut.py") 557, Value.int 141 0, Value.int 3 0, Value.int 0 0, Value.int 0 0, Value.int 3 0, Value.ref 274, Value.bool Bool.true, Value.int 181 0, Value.ref 275, Value.none, Value.ref 276, Value.ref 277, Value.ref 278, Value.int 561 0, Value.int 141 0, Value.str (Str.ofString "/claim/cut.py") 562]) #[] :: Obj.mk (Value.type "function") Option.none (Data.func (FuncData.mk (Str.ofString "calculated") (Str.ofString "calculated") aP49 (FuncBody.stmts aB49) aS49 3 [] Value.none Value.none Value.none (Value.str (Str.ofString "ledgerspeak.machine") 472) Option.none (Value.ref 279) Value.none 0)) #[] :: Obj.mk (Value.type "tuple") Option.none (Data.seq #[] 0) #[] :: Obj.mk Value.none Option.none (Data.fields #[]) #[] :: Obj.mk (Value.type "tuple") Option.none (Data.seq #[Value.str (Str.ofString "machine") 567, Value.str (Str.ofString "op") 568, Value.str (Str.ofString "last") 569] 0) #[] :: Obj.mk (Value.type "tuple") Option.none (Data.seq #[] 0) #[] :: Obj.mk Value.none Option.none (Data.func (FuncData.mk (Str.ofString "worth_by") (Str.ofString "worth_by") aP42 (FuncBody.stmts aB42) aS42 0 [] Value.none Value.none Value.none Value.none Option.none Value.none Value.none 0)) #[] :: Obj.mk (Value.type "code") Option.none (Data.fields #[Value.str (Str.ofString "worth_by") 564, Value.str (Str.ofString "worth_by") 565, Value.str (Str.ofString "/claim/cut.py") 566, Value.int 149 0, Value.int 2 0, Value.int 0 0, Value.int 0 0, Value.int 3 0, Value.ref 281, Value.bool Bool.true, Value.int 181 0, Value.ref 282, Value.none, Value.ref 283, Value.ref 284, Value.ref 285, Value.int 570 0, Value.int 149 0, Value.str (Str.ofString "/claim/cut.py") 571]) #[] :: Obj.mk (Value.type "function") Option.none (Data.func (FuncData.mk (Str.ofString "worth_by") (Str.ofString "worth_by") aP42 (FuncBody.stmts aB42) aS42 3 [] Value.none Value.none Value.none (Value.str (Str.ofString "ledgerspeak.machine") 472) Option.none (Value.ref 286) Value.none 0)) #[] :: Obj.mk (Value.type "tuple") Option.none (Data.seq #[] 0) #[] :: Obj.mk Value.none Option.none (Data.fields #[]) #[] :: Obj.mk (Value.type "tuple") Option.none (Data.seq #[Value.str (Str.ofString "machine") 576, Value.str (Str.ofString "op") 577] 0) #[] :: Obj.mk (Value.type "tuple") Option.none (Data.seq #[] 0) #[] :: Obj.mk Value.none Option.none (Data.func (FuncData.mk (Str.ofString "do_reckon") (Str.ofString "do_reckon") aP50 (FuncBody.stmts aB50) aS50 0 [] Value.none Value.none Value.none Value.none Option.none Value.none Value.none 0)) #[] :: Obj.mk (Value.type "code") Option.none (Data.fields #[Value.str (Str.ofString "do_reckon") 573, Value.str (Str.ofString "do_reckon") 574, Value.str (Str.ofString "/claim/cut.py") 575, Value.int 154 0, Value.int 2 0, Value.int 0 0, Value.int 0 0, Value.int 3 0, Value.ref 288, Value.bool Bool.true, Value.int 181 0, Value.ref 289, Value.none, Value.ref 290, Value.ref 291, Value.ref 292, Value.int 578 0, Value.int 154 0, Value.str (Str.ofString "/claim/cut.py") 579]) #[] :: Obj.mk (Value.type "function") Option.none (Data.func (FuncData.mk (Str.ofString "do_reckon") (Str.ofString "do_reckon") aP50 (FuncBody.stmts aB50) aS50 3 [] Value.none Value.none Value.none (Value.str (Str.ofString "ledgerspeak.machine") 472) Option.none (Value.ref 293) Value.none 0)) #[] :: Obj.mk (Value.type "tuple") Option.none (Data.seq #[] 0) #[] :: Obj.mk Value.none Option.none (Data.fields #[]) #[] :: Obj.mk (Value.type "tuple") Option.none (Data.seq #[Value.str (Str.ofString "machine") 584, Value.str (Str.ofString "op") 585] 0) #[] :: Obj.mk (Value.type "tuple") Option.none (Data.seq #[] 0) #[] :: Obj.mk Value.none Option.none (Data.func (FuncData.mk (Str.ofString "do_put") (Str.ofString "do_put") aP44 (FuncBody.stmts aB44) aS44 0 [] Value.none Value.none Value.none Value.none Option.none Value.none Value.none 0)) #[] :: Obj.mk (Value.type "code") Option.none (Data.fields #[Value.str (Str.ofString "do_put") 581, Value.str (Str.ofString "do_put") 582, Value.str (Str.ofString "/claim/cut.py") 583, Value.int 161 0, Value.int 2 0, Value.int 0 0, Value.int 0 0, Value.int 3 0, Value.ref 295, Value.bool Bool.true, Value.int 181 0, Value.ref 296, Value.none, Value.ref 297, Value.ref 298, Value.ref 299, Value.int 586 0, Value.int 161 0, Value.str (Str.ofString "/claim/cut.py") 587]) #[] :: Obj.mk (Value.type "function") Option.none (Data.func (FuncData.mk (Str.ofString "do_put") (Str.ofString "do_put") aP44 (FuncBody.stmts aB44) aS44 3 [] Value.none Value.none Value.none (Value.str (Str.ofString "ledgerspeak.machine") 472) Option.none (Value.ref 300) Value.none 0)) #[] :: Obj.mk (Value.type "tuple") Option.none (Data.seq #[] 0) #[] :: Obj.mk Value.none Option.none (Data.fields #[]) #[] :: Obj.mk (Value.type "tuple") Option.none (Data.seq #[Value.str (Str.ofString "machine") 592, Value.str (Str.ofString "op") 593] 0) #[] :: Obj.mk (Value.type "tuple") Option.none (Data.seq #[] 0) #[] :: Obj.mk Value.none Option.none (Data.func (FuncData.mk (Str.ofString "do_deed") (Str.ofString "do_deed") aP81 (FuncBody.stmts aB81) aS44 0 [] Value.none Value.none Value.none Value.none Option.none Value.none Value.none 0)) #[] :: Obj.mk (Value.type "code") Option.none (Data.fields #[Value.str (Str.ofString "do_deed") 589, Value.str (Str.ofString "do_deed") 590, Value.str (Str.ofString "/claim/cut.py") 591, Value.int 164 0, Value.int 2 0, Value.int 0 0, Value.int 0 0, Value.int 3 0, Value.ref 302, Value.bool Bool.true, Value.int 181 0, Value.ref 303, Value.none, Value.ref 304, Value.ref 305, Value.ref 306, Value.int 594 0, Value.int 164 0, Value.str (Str.ofString "/claim/cut.py") 595]) #[] :: Obj.mk (Value.type "function") Option.none (Data.func (FuncData.mk (Str.ofString "do_deed") (Str.ofString "do_deed") aP81 (FuncBody.stmts aB81) aS44 3 [] Value.none Value.none Value.none (Value.str (Str.ofString "ledgerspeak.machine") 472) Option.none (Value.ref 307) Value.none 0)) #[] :: Obj.mk (Value.type "tuple") Option.none (Data.seq #[] 0) #[] :: Obj.mk Value.none Option.none (Data.fields #[]) #[] :: Obj.mk (Value.type "tuple") Option.none (Data.seq #[Value.str (Str.ofString "machine") 600, Value.str (Str.ofString "op") 601] 0) #[] :: Obj.mk (Value.type "tuple") Option.none (Data.seq #[] 0) #[] :: Obj.mk Value.none Option.none (Data.func (FuncData.mk (Str.ofString "do_key") (Str.ofString "do_key") aP65 (FuncBody.stmts aB65) aS44 0 [] Value.none Value.none Value.none Value.none Option.none Value.none Value.none 0)) #[] :: Obj.mk (Value.type "code") Option.none (Data.fields #[Value.str (Str.ofString "do_key") 597, Value.str (Str.ofString "do_key") 598, Value.str (Str.ofString "/claim/cut.py") 599, Value.int 166 0, Value.int 2 0, Value.int 0 0, Value.int 0 0, Value.int 3 0, Value.ref 309, Value.bool Bool.true, Value.int 181 0, Value.ref 310, Value.none, Value.ref 311, Value.ref 312, Value.ref 313, Value.int 602 0, Value.int 166 0, Value.str (Str.ofString "/claim/cut.py") 603]) #[] :: Obj.mk (Value.type "function") Option.none (Data.func (FuncData.mk (Str.ofString "do_key") (Str.ofString "do_key") aP65 (FuncBody.stmts aB65) aS44 3 [] Value.none Value.none Value.none (Value.str (Str.ofString "ledgerspeak.machine") 472) Option.none (Value.ref 314) Value.none 0)) #[] :: Obj.mk (Value.type "tuple") Option.none (Data.seq #[] 0) #[] :: Obj.mk Value.none Option.none (Data.fields #[]) #[] :: Obj.mk (Value.type "tuple") Option.none (Data.seq #[Value.str (Str.ofString "machine") 608, Value.str (Str.ofString "op") 609] 0) #[] :: Obj.mk (Value.type "tuple") Option.none (Data.seq #[] 0) #[] :: Obj.mk Value.none Option.none (Data.func (FuncData.mk (Str.ofString "do_test") (Str.ofString "do_test") aP76 (FuncBody.stmts aB76) aS44 0 [] Value.none Value.none Value.none Value.none Option.none Value.none Value.none 0)) #[] :: Obj.mk (Value.type "code") Option.none (Data.fields #[Value.str (Str.ofString "do_test") 605, Value.str (Str.ofString "do_test") 606, Value.str (Str.ofString "/claim/cut.py") 607, Value.int 169 0, Value.int 2 0, Value.int 0 0, Value.int 0 0, Value.int 3 0, Value.ref 316, Value.bool Bool.true, Value.int 181 0, Value.ref 317, Value.none, Value.ref 318, Value.ref 319, Value.ref 320, Value.int 610 0, Value.int 169 0, Value.str (Str.ofString "/claim/cut.py") 611]) #[] :: Obj.mk (Value.type "function") Option.none (Data.func (FuncData.mk (Str.ofString "do_test") (Str.ofString "do_test") aP76 (FuncBody.stmts aB76) aS44 3 [] Value.none Value.none Value.none (Value.str (Str.ofString "ledgerspeak.machine") 472) Option.none (Value.ref 321) Value.none 0)) #[] :: Obj.mk (Value.type "tuple") Option.none (Data.seq #[] 0) #[] :: Obj.mk Value.none Option.none (Data.fields #[]) #[] :: Obj.mk (Value.type "tuple") Option.none (Data.seq #[Value.str (Str.ofString "machine") 616, Value.str (Str.ofString "op") 617] 0) #[] :: Obj.mk (Value.type "tuple") Option.none (Data.seq #[] 0) #[] :: Obj.mk Value.none Option.none (Data.func (FuncData.mk (Str.ofString "do_jump") (Str.ofString "do_jump") aP58 (FuncBody.stmts aB58) aS44 0 [] Value.none Value.none Value.none Value.none Option.none Value.none Value.none 0)) #[] :: Obj.mk (Value.type "code") Option.none (Data.fields #[Value.str (Str.ofString "do_jump") 613, Value.str (Str.ofString "do_jump") 614, Value.str (Str.ofString "/claim/cut.py") 615, Value.int 172 0, Value.int 2 0, Value.int 0 0, Value.int 0 0, Value.int 3 0, Value.ref 323, Value.bool Bool.true, Value.int 181 0, Value.ref 324, Value.none, Value.ref 325, Value.ref 326, Value.ref 327, Value.int 618 0, Value.int 172 0, Value.str (Str.ofString "/claim/cut.py") 619]) #[] :: Obj.mk (Value.type "function") Option.none (Data.func (FuncData.mk (Str.ofString "do_jump") (Str.ofString "do_jump") aP58 (FuncBody.stmts aB58) aS44 3 [] Value.none Value.none Value.none (Value.str (Str.ofString "ledgerspeak.machine") 472) Option.none (Value.ref 328) Value.none 0)) #[] :: Obj.mk (Value.type "tuple") Option.none (Data.seq #[] 0) #[] :: Obj.mk Value.none Option.none (Data.fields #[]) #[] :: Obj.mk (Value.type "tuple") Option.none (Data.seq #[Value.str (Str.ofString "machine") 624, Value.str (Str.ofString "op") 625, Value.str (Str.ofString "worth") 626] 0) #[] :: Obj.mk (Value.type "tuple") Option.none (Data.seq #[] 0) #[] :: Obj.mk Value.none Option.none (Data.func (FuncData.mk (Str.ofString "do_choose") (Str.ofString "do_choose") aP78 (FuncBody.stmts aB78) aS78 0 [] Value.none Value.none Value.none Value.none Option.none Value.none Value.none 0)) #[] :: Obj.mk (Value.type "code") Option.none (Data.fields #[Value.str (Str.ofString "do_choose") 621, Value.str (Str.ofString "do_choose") 622, Value.str (Str.ofString "/claim/cut.py") 623, Value.int 174 0, Value.int 2 0, Value.int 0 0, Value.int 0 0, Value.int 3 0, Value.ref 330, Value.bool Bool.true, Value.int 181 0, Value.ref 331, Value.none, Value.ref 332, Value.ref 333, Value.ref 334, Value.int 627 0, Value.int 174 0, Value.str (Str.ofString "/claim/cut.py") 628]) #[] :: Obj.mk (Value.type "function") Option.none (Data.func (FuncData.mk (Str.ofString "do_choose") (Str.ofString "do_choose") aP78 (FuncBody.stmts aB78) aS78 3 [] Value.none Value.none Value.none (Value.str (Str.ofString "ledgerspeak.machine") 472) Option.none (Value.ref 335) Value.none 0)) #[] :: Obj.mk (Value.type "tuple") Option.none (Data.seq #[] 0) #[] :: Obj.mk Value.none Option.none (Data.fields #[]) #[] :: Obj.mk (Value.type "tuple") Option.none (Data.seq #[Value.str (Str.ofString "machine") 633, Value.str (Str.ofString "op") 634] 0) #[] :: Obj.mk (Value.type "tuple") Option.none (Data.seq #[] 0) #[] :: Obj.mk Value.none Option.none (Data.func (FuncData.mk (Str.ofString "begin_frame") (Str.ofString "begin_frame") aP60 (FuncBody.stmts aB60) aS60 0 [] Value.none Value.none Value.none Value.none Option.none Value.none Value.none 0)) #[] :: Obj.mk (Value.type "code") Option.none (Data.fields #[Value.str (Str.ofString "begin_frame") 630, Value.str (Str.ofString "begin_frame") 631, Value.str (Str.ofString "/claim/cut.py") 632, Value.int 178 0, Value.int 2 0, Value.int 0 0, Value.int 0 0, Value.int 3 0, Value.ref 337, Value.bool Bool.true, Value.int 181 0, Value.ref 338, Value.none, Value.ref 339, Value.ref 340, Value.ref 341, Value.int 635 0, Value.int 178 0, Value.str (Str.ofString "/claim/cut.py") 636]) #[] :: Obj.mk (Value.type "function") Option.none (Data.func (FuncData.mk (Str.ofString "begin_frame") (Str.ofString "begin_frame") aP60 (FuncBody.stmts aB60) aS60 3 [] Value.none Value.none Value.none (Value.str (Str.ofString "ledgerspeak.machine") 472) Option.none (Value.ref 342) Value.none 0)) #[] :: Obj.mk (Value.type "tuple") Option.none (Data.seq #[] 0) #[] :: Obj.mk Value.none Option.none (Data.fields #[]) #[] :: Obj.mk (Value.type "tuple") Option.none (Data.seq #[Value.str (Str.ofString "machine") 641, Value.str (Str.ofString "op") 642] 0) #[] :: Obj.mk (Value.type "tuple") Option.none (Data.seq #[] 0) #[] :: Obj.mk Value.none Option.none (Data.func (FuncData.mk (Str.ofString "leave_frame") (Str.ofString "leave_frame") aP83 (FuncBody.stmts aB83) aS44 0 [] Value.none Value.none Value.none Value.none Option.none Value.none Value.none 0)) #[] :: Obj.mk (Value.type "code") Option.none (Data.fields #[Value.str (Str.ofString "leave_frame") 638, Value.str (Str.ofString "leave_frame") 639, Value.str (Str.ofString "/claim/cut.py") 640, Value.int 183 0, Value.int 2 0, Value.int 0 0, Value.int 0 0, Value.int 3 0, Value.ref 344, Value.bool Bool.true, Value.int 181 0, Value.ref 345, Value.none, Value.ref 346, Value.ref 347, Value.ref 348, Value.int 643 0, Value.int 183 0, Value.str (Str.ofString "/claim/cut.py") 644]) #[] :: Obj.mk (Value.type "function") Option.none (Data.func (FuncData.mk (Str.ofString "leave_frame") (Str.ofString "leave_frame") aP83 (FuncBody.stmts aB83) aS44 3 [] Value.none Value.none Value.none (Value.str (Str.ofString "ledgerspeak.machine") 472) Option.none (Value.ref 349) Value.none 0)) #[] :: Obj.mk (Value.type "tuple") Option.none (Data.seq #[] 0) #[] :: Obj.mk Value.none Option.none (Data.fields #[]) #[] :: Obj.mk (Value.type "tuple") Option.none (Data.seq #[Value.str (Str.ofString "machine") 649, Value.str (Str.ofString "op") 650] 0) #[] :: Obj.mk (Value.type "tuple") Option.none (Data.seq #[] 0) #[] :: Obj.mk Value.none Option.none (Data.func (FuncData.mk (Str.ofString "do_count") (Str.ofString "do_count") aP61 (FuncBody.stmts aB61) aS61 0 [] Value.none Value.none Value.none Value.none Option.none Value.none Value.none 0)) #[] :: Obj.mk (Value.type "code") Option.none (Data.fields #[Value.str (Str.ofString "do_count") 646, Value.str (Str.ofString "do_count") 647, Value.str (Str.ofString "/claim/cut.py") 648, Value.int 186 0, Value.int 2 0, Value.int 0 0, Value.int 0 0, Value.int 3 0, Value.ref 351, Value.bool Bool.true, Value.int 181 0, Value.ref 352, Value.none, Value.ref 353, Value.ref 354, Value.ref 355, Value.int 651 0, Value.int 186 0, Value.str (Str.ofString "/claim/cut.py") 652]) #[] :: Obj.mk (Value.type "function") Option.none (Data.func (FuncData.mk (Str.ofString "do_count") (Str.ofString "do_count") aP61 (FuncBody.stmts aB61) aS61 3 [] Value.none Value.none Value.none (Value.str (Str.ofString "ledgerspeak.machine") 472) Option.none (Value.ref 356) Value.none 0)) #[] :: Obj.mk (Value.type "tuple") Option.none (Data.seq #[] 0) #[] :: Obj.mk Value.none Option.none (Data.fields #[]) #[] :: Obj.mk (Value.type "tuple") Option.none (Data.seq #[Value.str (Str.ofString "machine") 657, Value.str (Str.ofString "op") 658, Value.str (Str.ofString "slots") 659] 0) #[] :: Obj.mk (Value.type "tuple") Option.none (Data.seq #[] 0) #[] :: Obj.mk Value.none Option.none (Data.func (FuncData.mk (Str.ofString "do_less") (Str.ofString "do_less") aP82 (FuncBody.stmts aB82) aS82 0 [] Value.none Value.none Value.none Value.none Option.none Value.none Value.none 0)) #[] :: Obj.mk (Value.type "code") Option.none (Data.fields #[Value.str (Str.ofString "do_less") 654, Value.str (Str.ofString "do_less") 655, Value.str (Str.ofString "/claim/cut.py") 656, Value.int 188 0, Value.int 2 0, Value.int 0 0, Value.int 0 0, Value.int 3 0, Value.ref 358, Value.bool Bool.true, Value.int 181 0, Value.ref 359, Value.none, Value.ref 360, Value.ref 361, Value.ref 362, Value.int 660 0, Value.int 188 0, Value.str (Str.ofString "/claim/cut.py") 661]) #[] :: Obj.mk (Value.type "function") Option.none (Data.func (FuncData.mk (Str.ofString "do_less") (Str.ofString "do_less") aP82 (FuncBody.stmts aB82) aS82 3 [] Value.none Value.none Value.none (Value.str (Str.ofString "ledgerspeak.machine") 472) Option.none (Value.ref 363) Value.none 0)) #[] :: Obj.mk (Value.type "tuple") Option.none (Data.seq #[] 0) #[] :: Obj.mk Value.none Option.none (Data.fields #[]) #[] :: Obj.mk (Value.type "tuple") Option.none (Data.seq #[Value.str (Str.ofString "machine") 666, Value.str (Str.ofString "op") 667] 0) #[] :: Obj.mk (Value.type "tuple") Option.none (Data.seq #[] 0) #[] :: Obj.mk Value.none Option.none (Data.func (FuncData.mk (Str.ofString "do_stop") (Str.ofString "do_stop") aP63 (FuncBody.stmts aB63) aS44 0 [] Value.none Value.none Value.none Value.none Option.none Value.none Value.none 0)) #[] :: Obj.mk (Value.type "code") Option.none (Data.fields #[Value.str (Str.ofString "do_stop") 663, Value.str (Str.ofString "do_stop") 664, Value.str (Str.ofString "/claim/cut.py") 665, Value.int 194 0, Value.int 2 0, Value.int 0 0, Value.int 0 0, Value.int 3 0, Value.ref 365, Value.bool Bool.true, Value.int 181 0, Value.ref 366, Value.none, Value.ref 367, Value.ref 368, Value.ref 369, Value.int 668 0, Value.int 194 0, Value.str (Str.ofString "/claim/cut.py") 669]) #[] :: Obj.mk (Value.type "function") Option.none (Data.func (FuncData.mk (Str.ofString "do_stop") (Str.ofString "do_stop") aP63 (FuncBody.stmts aB63) aS44 3 [] Value.none Value.none Value.none (Value.str (Str.ofString "ledgerspeak.machine") 472) Option.none (Value.ref 370) Value.none 0)) #[] :: Obj.mk (Value.type "tuple") Option.none (Data.seq #[] 0) #[] :: Obj.mk Value.none Option.none (Data.fields #[]) #[] :: Obj.mk (Value.type "tuple") Option.none (Data.seq #[] 0) #[] :: Obj.mk (Value.type "tuple") Option.none (Data.seq #[] 0) #[] :: Obj.mk Value.none Option.none (Data.func (FuncData.mk (Str.ofString "op_table") (Str.ofString "op_table") aP80 (FuncBody.stmts aB80) aS80 0 [] Value.none Value.none Value.none Value.none Option.none Value.none Value.none 0)) #[] :: Obj.mk (Value.type "code") Option.none (Data.fields #[Value.str (Str.ofString "op_table") 671, Value.str (Str.ofString "op_table") 672, Value.str (Str.ofString "/claim/cut.py") 673, Value.int 196 0, Value.int 0 0, Value.int 0 0, Value.int 0 0, Value.int 3 0, Value.ref 372, Value.bool Bool.true, Value.int 181 0, Value.ref 373, Value.none, Value.ref 374, Value.ref 375, Value.ref 376, Value.int 674 0, Value.int 196 0, Value.str (Str.ofString "/claim/cut.py") 675]) #[] :: Obj.mk (Value.type "function") Option.none (Data.func (FuncData.mk (Str.ofString "op_table") (Str.ofString "op_table") aP80 (FuncBody.stmts aB80) aS80 3 [] Value.none Value.none Value.none (Value.str (Str.ofString "ledgerspeak.machine") 472) Option.none (Value.ref 377) Value.none 0)) #[] :: Obj.mk (Value.type "tuple") Option.none (Data.seq #[] 0) #[] :: Obj.mk Value.none Option.none (Data.fields #[]) #[] :: Obj.mk (Value.type "tuple") Option.none (Data.seq #[Value.str (Str.ofString "code") 680, Value.str (Str.ofString "deeds") 681, Value.str (Str.ofString "limit") 682, Value.str (Str.ofString "machine") 683, Value.str (Str.ofString "table") 684, Value.str (Str.ofString "steps") 685, Value.str (Str.ofString "op") 686] 0) #[] :: Obj.mk (Value.type "tuple") Option.none (Data.seq #[] 0) #[] :: Obj.mk Value.none Option.none (Data.func (FuncData.mk (Str.ofString "run_code") (Str.ofString "run_code") aP56 (FuncBody.stmts aB56) aS56 0 [] Value.none Value.none Value.none Value.none Option.none Value.none Value.none 0)) #[] :: Obj.mk (Value.type "code") Option.none (Data.fields #[Value.str (Str.ofString "run_code") 677, Value.str (Str.ofString "run_code") 678, Value.str (Str.ofString "/claim/cut.py") 679, Value.int 198 0, Value.int 3 0, Value.int 0 0, Value.int 0 0, Value.int 3 0, Value.ref 379, Value.bool Bool.true, Value.int 181 0, Value.ref 380, Value.none, Value.ref 381, Value.ref 382, Value.ref 383, Value.int 687 0, Value.int 198 0, Value.str (Str.ofString "/claim/cut.py") 688]) #[] :: Obj.mk (Value.type "function") Option.none (Data.func (FuncData.mk (Str.ofString "run_code") (Str.ofString "run_code") aP56 (FuncBody.stmts aB56) aS56 3 [] Value.none Value.none Value.none (Value.str (Str.ofString "ledgerspeak.machine") 472) Option.none (Value.ref 384) Value.none 0)) #[] :: Obj.mk (Value.type "tuple") Option.none (Data.seq #[] 0) #[] :: Obj.mk (Value.type "builtin_function_or_method") Option.none (Data.fields #[Value.builtin "type.__prepare__", Value.type "type"]) #[] :: Obj.mk (Value.type "dict") Option.none (Data.dict #[DictEntry.mk (PyData.keyHash P (Str.ofString "__module__")) (Value.str (Str.ofString "__module__") 699) (Value.str (Str.ofString "ledgerspeak.runner") 690), DictEntry.mk (PyData.keyHash P (Str.ofString "__qualname__")) (Value.str (Str.ofString "__qualname__") 701) (Value.str (Str.ofString "Deeds") 700), DictEntry.mk (PyData.keyHash P (Str.ofString "__firstlineno__")) (Value.str (Str.ofString "__firstlineno__") 703) (Value.int 213 702), DictEntry.mk (PyData.keyHash P (Str.ofString "__init__")) (Value.str (Str.ofString "__init__") 714) (Value.ref 399), DictEntry.mk (PyData.keyHash P (Str.ofString "__static_attributes__")) (Value.str (Str.ofString "__static_attributes__") 719) (Value.ref 400)] 5) #[] :: Obj.mk (Value.type "tuple") Option.none (Data.seq #[] 0) #[] :: Obj.mk Value.none Option.none (Data.fields #[Value.int 215 0, Value.int 4 0, Value.ref 398]) #[] :: Obj.mk (Value.type "code") Option.none (Data.fields #[Value.str (Str.ofString "Deeds") 694, Value.str (Str.ofString "Deeds") 695, Value.str (Str.ofString "/claim/cut.py") 696, Value.int 213 0, Value.int 0 0, Value.int 0 0, Value.int 0 0, Value.int 0 0, Value.ref 389, Value.bool Bool.false, Value.int 181 0, Value.ref 390, Value.none, Value.none, Value.none, Value.none, Value.int 697 0, Value.int 213 0, Value.str (Str.ofString "/claim/cut.py") 698]) #[] :: Obj.mk (Value.type "frame") Option.none Data.plain #[Option.some (Value.ref 391), Option.some (Value.ref 3), Option.some (Value.ref 388), Option.none, Option.some (Value.str (Str.ofString "ledgerspeak.runner") 690), Option.none, Option.some (Value.ref 0)] :: Obj.mk (Value.type "tuple") Option.none (Data.seq #[] 0) #[] :: Obj.mk Value.none Option.none (Data.fields #[]) #[] :: Obj.mk (Value.type "tuple") Option.none (Data.seq #[Value.str (Str.ofString "self") 707, Value.str (Str.ofString "do") 708, Value.str (Str.ofString "test") 709, Value.str (Str.ofString "number") 710, Value.str (Str.ofString "put") 711] 0) #[] :: Obj.mk (Value.type "tuple") Option.none (Data.seq #[] 0) #[] :: Obj.mk Value.none Option.none (Data.func (FuncData.mk (Str.ofString "__init__") (Str.ofString "Deeds.__init__") aP57 (FuncBody.stmts aB57) aS57 0 [] Value.none Value.none Value.none Value.none Option.none Value.none Value.none 0)) #[] :: Obj.mk (Value.type "code") Option.none (Data.fields #[Value.str (Str.ofString "__init__") 704, Value.str (Str.ofString "Deeds.__init__") 705, Value.str (Str.ofString "/claim/cut.py") 706, Value.int 215 0, Value.int 5 0, Value.int 0 0, Value.int 0 0, Value.int 3 0, Value.ref 393, Value.bool Bool.true, Value.int 181 0, Value.ref 394, Value.none, Value.ref 395, Value.ref 396, Value.ref 397, Value.int 712 0, Value.int 215 0, Value.str (Str.ofString "/claim/cut.py") 713]) #[] :: Obj.mk (Value.type "function") Option.none (Data.func (FuncData.mk (Str.ofString "__init__") (Str.ofString "Deeds.__init__") aP57 (FuncBody.stmts aB57) aS57 3 [] Value.none Value.none Value.none (Value.str (Str.ofString "ledgerspeak.runner") 690) Option.none (Value.ref 398) Value.none 0)) #[] :: Obj.mk (Value.type "tuple") Option.none (Data.seq #[Value.str (Str.ofString "do") 715, Value.str (Str.ofString "number") 716, Value.str (Str.ofString "put") 717, Value.str (Str.ofString "test") 718] 0) #[] :: Obj.mk (Value.type "dict") Option.none (Data.dict #[DictEntry.mk (PyData.keyHash P (Str.ofString "__module__")) (Value.str (Str.ofString "__module__") 699) (Value.str (Str.ofString "ledgerspeak.runner") 690), DictEntry.mk (PyData.keyHash P (Str.ofString "__firstlineno__")) (Value.str (Str.ofString "__firstlineno__") 703) (Value.int 213 702), DictEntry.mk (PyData.keyHash P (Str.ofString "__init__")) (Value.str (Str.ofString "__init__") 714) (Value.ref 399), DictEntry.mk (PyData.keyHash P (Str.ofString "__static_attributes__")) (Value.str (Str.ofString "__static_attributes__") 719) (Value.ref 400), DictEntry.mk (PyData.keyHash P (Str.ofString "__dict__")) (Value.str (Str.ofString "__dict__") 721) (Value.ref 403), DictEntry.mk (PyData.keyHash P (Str.ofString "__weakref__")) (Value.str (Str.ofString "__weakref__") 723) (Value.ref 404), DictEntry.mk (PyData.keyHash P (Str.ofString "__doc__")) (Value.str (Str.ofString "__doc__") 724) Value.none] 4) #[] :: Obj.mk (Value.type "type") Option.none (Data.cls (ClassData.mk (Str.ofString "Deeds") [Value.type "object"] [Value.ref 402, Value.type "object"] 401 (Str.ofString "Deeds") Bool.true [] [] Bool.false Option.none Bool.false)) #[Option.none, Option.none, Option.some (Value.str (Str.ofString "Deeds") 692), Option.some (Value.str (Str.ofString "Deeds") 700), Option.some (Value.builtin "object.__new__"), Option.some (Value.bool Bool.true)] :: Obj.mk (Value.type "getset_descriptor") Option.none (Data.fields #[Value.str (Str.ofString "__dict__") 720, Value.ref 402, Value.builtin "function.__dict__", Value.builtin "function.__dict__#set"]) #[] :: Obj.mk (Value.type "getset_descriptor") Option.none (Data.fields #[Value.str (Str.ofString "__weakref__") 722, Value.ref 402, Value.builtin "ExceptionGroup.__weakref__", Value.none]) #[] :: Obj.mk (Value.type "super") Option.none (Data.fields #[Value.ref 402, Value.ref 402, Value.ref 402]) #[] :: Obj.mk (Value.type "builtin_function_or_method") Option.none (Data.fields #[Value.builtin "object.__init_subclass__", Value.ref 402]) #[] :: Obj.mk (Value.type "tuple") Option.none (Data.seq #[] 0) #[] :: Obj.mk Value.none Option.none (Data.fields #[]) #[] :: Obj.mk (Value.type "tuple") Option.none (Data.seq #[Value.str (Str.ofString "tape") 732, Value.str (Str.ofString "limit") 733, Value.str (Str.ofString "cells") 734, Value.str (Str.ofString "spot") 735, Value.str (Str.ofString "cell") 736] 0) #[] :: Obj.mk (Value.type "tuple") Option.none (Data.seq #[] 0) #[] :: Obj.mk Value.none Option.none (Data.func (FuncData.mk (Str.ofString "_law_draw") (Str.ofString "_law_draw") aP64 (FuncBody.stmts aB64) aS64 0 [] Value.none Value.none Value.none Value.none Option.none Value.none Value.none 0)) #[] :: Obj.mk (Value.type "code") Option.none (Data.fields #[Value.str (Str.ofString "_law_draw") 729, Value.str (Str.ofString "_law_draw") 730, Value.str (Str.ofString "/claim/cut.py") 731, Value.int 221 0, Value.int 2 0, Value.int 0 0, Value.int 0 0, Value.int 3 0, Value.ref 407, Value.bool Bool.true, Value.int 181 0, Value.ref 408, Value.none, Value.ref 409, Value.ref 410, Value.ref 411, Value.int 737 0, Value.int 221 0, Value.str (Str.ofString "/claim/cut.py") 738]) #[] :: Obj.mk (Value.type "function") Option.none (Data.func (FuncData.mk (Str.ofString "_law_draw") (Str.ofString "_law_draw") aP64 (FuncBody.stmts aB64) aS64 3 [] Value.none Value.none Value.none (Value.str (Str.ofString "law_pb0246_01") 727) Option.none (Value.ref 412) Value.none 0)) #[] :: Obj.mk (Value.type "tuple") Option.none (Data.seq #[] 0) #[] :: Obj.mk Value.none Option.none (Data.fields #[]) #[] :: Obj.mk Value.none Option.none (Data.func (FuncData.mk (Str.ofString "_law_place") (Str.ofString "_law_place") aP77 (FuncBody.stmts aB77) aS77 0 [] Value.none Value.none Value.none Value.none Option.none Value.none Value.none 0)) #[] :: Obj.mk (Value.type "code") Option.none (Data.fields #[Value.str (Str.ofString "_law_place") 740, Value.str (Str.ofString "_law_place") 741, Value.str (Str.ofString "/claim/cut.py") 742, Value.int 228 0, Value.int 2 0, Value.int 0 0, Value.int 0 0, Value.int 3 0, Value.ref 414, Value.bool Bool.true, Value.int 181 0, Value.ref 415, Value.none, Value.none, Value.none, Value.ref 416, Value.int 743 0, Value.int 228 0, Value.str (Str.ofString "/claim/cut.py") 744]) #[] :: Obj.mk (Value.type "function") Option.none (Data.func (FuncData.mk (Str.ofString "_law_place") (Str.ofString "_law_place") aP77 (FuncBody.stmts aB77) aS77 3 [] Value.none Value.none Value.none (Value.str (Str.ofString "law_pb0246_01") 727) Option.none (Value.ref 417) Value.none 0)) #[] :: Obj.mk (Value.type "tuple") Option.none (Data.seq #[] 0) #[] :: Obj.mk Value.none Option.none (Data.fields #[]) #[] :: Obj.mk (Value.type "tuple") Option.none (Data.seq #[Value.str (Str.ofString "ops") 749, Value.str (Str.ofString "cells") 750, Value.str (Str.ofString "do_one") 751, Value.str (Str.ofString "deeds") 752] 0) #[] :: Obj.mk (Value.type "tuple") Option.none (Data.seq #[Value.str (Str.ofString "cells") 753, Value.str (Str.ofString "done") 754] 0) #[] :: Obj.mk Value.none Option.none (Data.func (FuncData.mk (Str.ofString "_law_run") (Str.ofString "_law_run") aP59 (FuncBody.stmts aB59) aS59 0 [] Value.none Value.none Value.none Value.none Option.none Value.none Value.none 0)) #[] :: Obj.mk (Value.type "code") Option.none (Data.fields #[Value.str (Str.ofString "_law_run") 746, Value.str (Str.ofString "_law_run") 747, Value.str (Str.ofString "/claim/cut.py") 748, Value.int 232 0, Value.int 2 0, Value.int 0 0, Value.int 0 0, Value.int 3 0, Value.ref 419, Value.bool Bool.true, Value.int 181 0, Value.ref 420, Value.none, Value.ref 421, Value.ref 422, Value.ref 423, Value.int 755 0, Value.int 232 0, Value.str (Str.ofString "/claim/cut.py") 756]) #[] :: Obj.mk (Value.type "function") Option.none (Data.func (FuncData.mk (Str.ofString "_law_run") (Str.ofString "_law_run") aP59 (FuncBody.stmts aB59) aS59 3 [] Value.none Value.none Value.none (Value.str (Str.ofString "law_pb0246_01") 727) Option.none (Value.ref 424) Value.none 0)) #[] :: Obj.mk (Value.type "tuple") Option.none (Data.seq #[] 0) #[] :: Obj.mk Value.none Option.none (Data.fields #[]) #[] :: Obj.mk (Value.type "tuple") Option.none (Data.seq #[Value.str (Str.ofString "ops") 761, Value.str (Str.ofString "cells") 762, Value.str (Str.ofString "whole") 763, Value.str (Str.ofString "cut") 764, Value.str (Str.ofString "place") 765, Value.str (Str.ofString "op") 766, Value.str (Str.ofString "left") 767, Value.str (Str.ofString "heads") 768, Value.str (Str.ofString "end") 769, Value.str (Str.ofString "done") 770, Value.str (Str.ofString "other") 771, Value.str (Str.ofString "others") 772] 0) #[] :: Obj.mk (Value.type "tuple") Option.none (Data.seq #[] 0) #[] :: Obj.mk Value.none Option.none (Data.func (FuncData.mk (Str.ofString "_law_runs_alike") (Str.ofString "_law_runs_alike") aP79 (FuncBody.stmts aB79) aS79 0 [] Value.none Value.none Value.none Value.none Option.none Value.none Value.none 0)) #[] :: Obj.mk (Value.type "code") Option.none (Data.fields #[Value.str (Str.ofString "_law_runs_alike") 758, Value.str (Str.ofString "_law_runs_alike") 759, Value.str (Str.ofString "/claim/cut.py") 760, Value.int 243 0, Value.int 2 0, Value.int 0 0, Value.int 0 0, Value.int 3 0, Value.ref 426, Value.bool Bool.true, Value.int 181 0, Value.ref 427, Value.none, Value.ref 428, Value.ref 429, Value.ref 430, Value.int 773 0, Value.int 243 0, Value.str (Str.ofString "/claim/cut.py") 774]) #[] :: Obj.mk (Value.type "function") Option.none (Data.func (FuncData.mk (Str.ofString "_law_runs_alike") (Str.ofString "_law_runs_alike") aP79 (FuncBody.stmts aB79) aS79 3 [] Value.none Value.none Value.none (Value.str (Str.ofString "law_pb0246_01") 727) Option.none (Value.ref 431) Value.none 0)) #[] :: Obj.mk (Value.type "tuple") Option.none (Data.seq #[] 0) #[] :: Obj.mk Value.none Option.none (Data.fields #[]) #[] :: Obj.mk Value.none Option.none (Data.func (FuncData.mk (Str.ofString "law") (Str.ofString "law") aP62 (FuncBody.stmts aB62) aS62 0 [] Value.none Value.none Value.none Value.none Option.none Value.none Value.none 0)) #[] :: Obj.mk (Value.type "code") Option.none (Data.fields #[Value.str (Str.ofString "law") 776, Value.str (Str.ofString "law") 777, Value.str (Str.ofString "/claim/cut.py") 778, Value.int 260 0, Value.int 1 0, Value.int 0 0, Value.int 0 0, Value.int 3 0, Value.ref 433, Value.bool Bool.true, Value.int 181 0, Value.ref 434, Value.none, Value.none, Value.none, Value.ref 435, Value.int 779 0, Value.int 260 0, Value.str (Str.ofString "/claim/cut.py") 780]) #[] :: Obj.mk (Value.type "function") Option.none (Data.func (FuncData.mk (Str.ofString "law") (Str.ofString "law") aP62 (FuncBody.stmts aB62) aS62 3 [] Value.none Value.none Value.none (Value.str (Str.ofString "law_pb0246_01") 727) Option.none (Value.ref 436) Value.none 0)) #[] :: [])) (Life.mk [] [] [] 0 [] [] Bool.false #[] [] 0 Bool.false Bool.false Bool.false 0 [2000, 10, 10] Bool.false 0 Bool.true [] [] 0 Bool.false)
noncomputable def K0 (P : Params) : Frag := (nat_lit 2, Obj.mk Value.none Option.none (Data.dict #[DictEntry.mk (PyData.keyHash P (Str.ofString "type.__subclasses__.Exception.0")) (Value.str (Str.ofString "type.__subclasses__.Exception.0") 289) (Value.int 85 0), DictEntry.mk (PyData.keyHash P (Str.ofString "type.__subclasses__.Exception.n")) (Value.str (Str.ofString "type.__subclasses__.Exception.n") 290) (Value.int 1 0)] 2) #[]) :: (nat_lit 3, Obj.mk (Value.type "dict") Option.none (Data.dict #[DictEntry.mk (PyData.keyHash P (Str.ofString "__name__")) (Value.str (Str.ofString "__name__") 165) (Value.str (Str.ofString "law_pb0246_01") 727), DictEntry.mk (PyData.keyHash P (Str.ofString "__doc__")) (Value.str (Str.ofString "__doc__") 166) Value.none, DictEntry.mk (PyData.keyHash P (Str.ofString "__package__")) (Value.str (Str.ofString "__package__") 167) Value.none, DictEntry.mk (PyData.keyHash P (Str.ofString "__loader__")) (Value.str (Str.ofString "__loader__") 168) (Value.builtin "__main__.__loader__#opaque"), DictEntry.mk (PyData.keyHash P (Str.ofString "__spec__")) (Value.str (Str.ofString "__spec__") 169) Value.none, DictEntry.mk (PyData.keyHash P (Str.ofString "__annotations__")) (Value.str (Str.ofString "__annotations__") 170) (Value.ref 6), DictEntry.mk (PyData.keyHash P (Str.ofString "__builtins__")) (Value.str (Str.ofString "__builtins__") 171) (Value.ref 4), DictEntry.mk (PyData.keyHash P (Str.ofString "__file__")) (Value.str (Str.ofString "__file__") 173) (Value.str (Str.ofString "/claim/cut.py") 172), DictEntry.mk (PyData.keyHash P (Str.ofString "__cached__")) (Value.str (Str.ofString "__cached__") 174) Value.none, DictEntry.mk (PyData.keyHash P (Str.ofString "LET")) (Value.str (Str.ofString "LET") 191) (Value.int (-1) 190), DictEntry.mk (PyData.keyHash P (Str.ofString "Code")) (Value.str (Str.ofString "Code") 229) (Value.ref 38), DictEntry.mk (PyData.keyHash P (Str.ofString "labels_of")) (Value.str (Str.ofString "labels_of") 236) (Value.ref 49), DictEntry.mk (PyData.keyHash P (Str.ofString "relabelled")) (Value.str (Str.ofString "relabelled") 242) (Value.ref 54), DictEntry.mk (PyData.keyHash P (Str.ofString "pressed")) (Value.str (Str.ofString "pressed") 250) (Value.ref 59), DictEntry.mk (PyData.keyHash P (Str.ofString "LedgerError")) (Value.str (Str.ofString "LedgerError") 292) (Value.ref 85), DictEntry.mk (PyData.keyHash P (Str.ofString "RunFault")) (Value.str (Str.ofString "RunFault") 308) (Value.ref 98), DictEntry.mk (PyData.keyHash P (Str.ofString "SizeFault")) (Value.str (Str.ofString "SizeFault") 324) (Value.ref 110), DictEntry.mk (PyData.keyHash P (Str.ofString "StepFault")) (Value.str (Str.ofString "StepFault") 340) (Value.ref 122), DictEntry.mk (PyData.keyHash P (Str.ofString "MOST_PLACES")) (Value.str (Str.ofString "MOST_PLACES") 344) (Value.int 30 343), DictEntry.mk (PyData.keyHash P (Str.ofString "MOST_POWER")) (Value.str (Str.ofString "MOST_POWER") 346) (Value.int 99 345), DictEntry.mk (PyData.keyHash P (Str.ofString "MOST_FIGURES")) (Value.str (Str.ofString "MOST_FIGURES") 348) (Value.int 120 347), DictEntry.mk (PyData.keyHash P (Str.ofString "cut_quotient")) (Value.str (Str.ofString "cut_quotient") 356) (Value.ref 131), DictEntry.mk (PyData.keyHash P (Str.ofString "decimal")) (Value.str (Str.ofString "decimal") 365) (Value.ref 139), DictEntry.mk (PyData.keyHash P (Str.ofString "kept")) (Value.str (Str.ofString "kept") 373) (Value.ref 146), DictEntry.mk (PyData.keyHash P (Str.ofString "units_beside")) (Value.str (Str.ofString "units_beside") 382) (Value.ref 153), DictEntry.mk (PyData.keyHash P (Str.ofString "plus")) (Value.str (Str.ofString "plus") 393) (Value.ref 160), DictEntry.mk (PyData.keyHash P (Str.ofString "minus")) (Value.str (Str.ofString "minus") 404) (Value.ref 167), DictEntry.mk (PyData.keyHash P (Str.ofString "times")) (Value.str (Str.ofString "times") 412) (Value.ref 174), DictEntry.mk (PyData.keyHash P (Str.ofString "negated")) (Value.str (Str.ofString "negated") 419) (Value.ref 181), DictEntry.mk (PyData.keyHash P (Str.ofString "quotient")) (Value.str (Str.ofString "quotient") 428) (Value.ref 189), DictEntry.mk (PyData.keyHash P (Str.ofString "power")) (Value.str (Str.ofString "power") 438) (Value.ref 196), DictEntry.mk (PyData.keyHash P (Str.ofString "units_at")) (Value.str (Str.ofString "units_at") 449) (Value.ref 203), DictEntry.mk (PyData.keyHash P (Str.ofString "is_whole")) (Value.str (Str.ofString "is_whole") 456) (Value.ref 210), DictEntry.mk (PyData.keyHash P (Str.ofString "whole_of")) (Value.str (Str.ofString "whole_of") 463) (Value.ref 217), DictEntry.mk (PyData.keyHash P (Str.ofString "fits")) (Value.str (Str.ofString "fits") 471) (Value.ref 224), DictEntry.mk (PyData.keyHash P (Str.ofString "MOST_FRAMES")) (Value.str (Str.ofString "MOST_FRAMES") 475) (Value.int 20 474), DictEntry.mk (PyData.keyHash P (Str.ofString "NO_LABEL")) (Value.str (Str.ofString "NO_LABEL") 478) (Value.int (-1) 477), DictEntry.mk (PyData.keyHash P (Str.ofString "Frame")) (Value.str (Str.ofString "Frame") 510) (Value.ref 241), DictEntry.mk (PyData.keyHash P (Str.ofString "Machine")) (Value.str (Str.ofString "Machine") 554) (Value.ref 269), DictEntry.mk (PyData.keyHash P (Str.ofString "calculated")) (Value.str (Str.ofString "calculated") 563) (Value.ref 280), DictEntry.mk (PyData.keyHash P (Str.ofString "worth_by")) (Value.str (Str.ofString "worth_by") 572) (Value.ref 287), DictEntry.mk (PyData.keyHash P (Str.ofString "do_reckon")) (Value.str (Str.ofString "do_reckon") 580) (Value.ref 294), DictEntry.mk (PyData.keyHash P (Str.ofString "do_put")) (Value.str (Str.ofString "do_put") 588) (Value.ref 301), DictEntry.mk (PyData.keyHash P (Str.ofString "do_deed")) (Value.str (Str.ofString "do_deed") 596) (Value.ref 308), DictEntry.mk (PyData.keyHash P (Str.ofString "do_key")) (Value.str (Str.ofString "do_key") 604) (Value.ref 315), DictEntry.mk (PyData.keyHash P (Str.ofString "do_test")) (Value.str (Str.ofString "do_test") 612) (Value.ref 322), DictEntry.mk (PyData.keyHash P (Str.ofString "do_jump")) (Value.str (Str.ofString "do_jump") 620) (Value.ref 329), DictEntry.mk (PyData.keyHash P (Str.ofString "do_choose")) (Value.str (Str.ofString "do_choose") 629) (Value.ref 336), DictEntry.mk (PyData.keyHash P (Str.ofString "begin_frame")) (Value.str (Str.ofString "begin_frame") 637) (Value.ref 343), DictEntry.mk (PyData.keyHash P (Str.ofString "leave_frame")) (Value.str (Str.ofString "leave_frame") 645) (Value.ref 350), DictEntry.mk (PyData.keyHash P (Str.ofString "do_count")) (Value.str (Str.ofString "do_count") 653) (Value.ref 357), DictEntry.mk (PyData.keyHash P (Str.ofString "do_less")) (Value.str (Str.ofString "do_less") 662) (Value.ref 364), DictEntry.mk (PyData.keyHash P (Str.ofString "do_stop")) (Value.str (Str.ofString "do_stop") 670) (Value.ref 371), DictEntry.mk (PyData.keyHash P (Str.ofString "op_table")) (Value.str (Str.ofString "op_table") 676) (Value.ref 378), DictEntry.mk (PyData.keyHash P (Str.ofString "run_code")) (Value.str (Str.ofString "run_code") 689) (Value.ref 385), DictEntry.mk (PyData.keyHash P (Str.ofString "Deeds")) (Value.str (Str.ofString "Deeds") 726) (Value.ref 402), DictEntry.mk (PyData.keyHash P (Str.ofString "_law_draw")) (Value.str (Str.ofString "_law_draw") 739) (Value.ref 413), DictEntry.mk (PyData.keyHash P (Str.ofString "_law_place")) (Value.str (Str.ofString "_law_place") 745) (Value.ref 418), DictEntry.mk (PyData.keyHash P (Str.ofString "_law_run")) (Value.str (Str.ofString "_law_run") 757) (Value.ref 425), DictEntry.mk (PyData.keyHash P (Str.ofString "_law_runs_alike")) (Value.str (Str.ofString "_law_runs_alike") 775) (Value.ref 432), DictEntry.mk (PyData.keyHash P (Str.ofString "law")) (Value.str (Str.ofString "law") 781) (Value.ref 437)] 61) #[]) :: (nat_lit 22, Obj.mk (Value.type "tuple") Option.none (Data.seq #[] 0) #[]) :: (nat_lit 24, Obj.mk (Value.type "tuple") Option.none (Data.seq #[Value.str (Str.ofString "self") 207, Value.str (Str.ofString "ops") 208, Value.str (Str.ofString "begins") 209] 0) #[]) :: (nat_lit 25, Obj.mk (Value.type "tuple") Option.none (Data.seq #[] 0) #[]) :: (nat_lit 27, Obj.mk (Value.type "code") Option.none (Data.fields #[Value.str (Str.ofString "__init__") 204, Value.str (Str.ofString "Code.__init__") 205, Value.str (Str.ofString "/claim/cut.py") 206, Value.int 5 0, Value.int 3 0, Value.int 0 0, Value.int 0 0, Value.int 3 0, Value.ref 22, Value.bool Bool.true, Value.int 181 0, Value.ref 23, Value.none, Value.ref 24, Value.ref 25, Value.ref 26, Value.int 210 0, Value.int 5 0, Value.str (Str.ofString "/claim/cut.py") 211]) #[]) :: (nat_lit 28, Obj.mk (Value.type "function") Option.none (Data.func (FuncData.mk (Str.ofString "__init__") (Str.ofString "Code.__init__") aP10 (FuncBody.stmts aB10) aS10 3 [] Value.none Value.none Value.none (Value.str (Str.ofString "ledgerspeak.codes") 187) Option.none (Value.ref 27) Value.none 0)) #[]) :: (nat_lit 29, Obj.mk (Value.type "tuple") Option.none (Data.seq #[] 0) #[]) :: (nat_lit 31, Obj.mk (Value.type "tuple") Option.none (Data.seq #[Value.str (Str.ofString "self") 216] 0) #[]) :: (nat_lit 32, Obj.mk (Value.type "tuple") Option.none (Data.seq #[] 0) #[]) :: (nat_lit 34, Obj.mk (Value.type "code") Option.none (Data.fields #[Value.str (Str.ofString "told") 213, Value.str (Str.ofString "Code.told") 214, Value.str (Str.ofString "/claim/cut.py") 215, Value.int 9 0, Value.int 1 0, Value.int 0 0, Value.int 0 0, Value.int 3 0, Value.ref 29, Value.bool Bool.true, Value.int 181 0, Value.ref 30, Value.none, Value.ref 31, Value.ref 32, Value.ref 33, Value.int 217 0, Value.int 9 0, Value.str (Str.ofString "/claim/cut.py") 218]) #[]) :: (nat_lit 35, Obj.mk (Value.type "function") Option.none (Data.func (FuncData.mk (Str.ofString "told") (Str.ofString "Code.told") aP1 (FuncBody.stmts aB1) aS1 3 [] Value.none Value.none Value.none (Value.str (Str.ofString "ledgerspeak.codes") 187) Option.none (Value.ref 34) Value.none 0)) #[]) :: (nat_lit 36, Obj.mk (Value.type "tuple") Option.none (Data.seq #[Value.str (Str.ofString "begins") 220, Value.str (Str.ofString "ops") 221] 0) #[]) :: (nat_lit 37, Obj.mk (Value.type "dict") Option.none (Data.dict #[DictEntry.mk (PyData.keyHash P (Str.ofString "__module__")) (Value.str (Str.ofString "__module__") 199) (Value.str (Str.ofString "ledgerspeak.codes") 187), DictEntry.mk (PyData.keyHash P (Str.ofString "__firstlineno__")) (Value.str (Str.ofString "__firstlineno__") 203) (Value.int 3 202), DictEntry.mk (PyData.keyHash P (Str.ofString "__init__")) (Value.str (Str.ofString "__init__") 212) (Value.ref 28), DictEntry.mk (PyData.keyHash P (Str.ofString "told")) (Value.str (Str.ofString "told") 219) (Value.ref 35), DictEntry.mk (PyData.keyHash P (Str.ofString "__static_attributes__")) (Value.str (Str.ofString "__static_attributes__") 222) (Value.ref 36), DictEntry.mk (PyData.keyHash P (Str.ofString "__dict__")) (Value.str (Str.ofString "__dict__") 224) (Value.ref 39), DictEntry.mk (PyData.keyHash P (Str.ofString "__weakref__")) (Value.str (Str.ofString "__weakref__") 226) (Value.ref 40), DictEntry.mk (PyData.keyHash P (Str.ofString "__doc__")) (Value.str (Str.ofString "__doc__") 227) Value.none] 4) #[]) :: (nat_lit 38, Obj.mk (Value.type "type") Option.none (Data.cls (ClassData.mk (Str.ofString "Code") [Value.type "object"] [Value.ref 38, Value.type "object"] 37 (Str.ofString "Code") Bool.true [] [] Bool.false Option.none Bool.false)) #[Option.none, Option.none, Option.some (Value.str (Str.ofString "Code") 192), Option.some (Value.str (Str.ofString "Code") 200), Option.some (Value.builtin "object.__new__"), Option.some (Value.bool Bool.true)]) :: (nat_lit 39, Obj.mk (Value.type "getset_descriptor") Option.none (Data.fields #[Value.str (Str.ofString "__dict__") 223, Value.ref 38, Value.builtin "function.__dict__", Value.builtin "function.__dict__#set"]) #[]) :: (nat_lit 40, Obj.mk (Value.type "getset_descriptor") Option.none (Data.fields #[Value.str (Str.ofString "__weakref__") 225, Value.ref 38, Value.builtin "ExceptionGroup.__weakref__", Value.none]) #[]) :: (nat_lit 43, Obj.mk (Value.type "tuple") Option.none (Data.seq #[] 0) #[]) :: (nat_lit 45, Obj.mk (Value.type "tuple") Option.none (Data.seq #[Value.str (Str.ofString "op") 233] 0) #[]) :: (nat_lit 46, Obj.mk (Value.type "tuple") Option.none (Data.seq #[] 0) #[]) :: (nat_lit 48, Obj.mk (Value.type "code") Option.none (Data.fields #[Value.str (Str.ofString "labels_of") 230, Value.str (Str.ofString "labels_of") 231, Value.str (Str.ofString "/claim/cut.py") 232, Value.int 11 0, Value.int 1 0, Value.int 0 0, Value.int 0 0, Value.int 3 0, Value.ref 43, Value.bool Bool.true, Value.int 181 0, Value.ref 44, Value.none, Value.ref 45, Value.ref 46, Value.ref 47, Value.int 234 0, Value.int 11 0, Value.str (Str.ofString "/claim/cut.py") 235]) #[]) :: (nat_lit 49, Obj.mk (Value.type "function") Option.none (Data.func (FuncData.mk (Str.ofString "labels_of") (Str.ofString "labels_of") aP0 (FuncBody.stmts aB0) aS0 3 [] Value.none Value.none Value.none (Value.str (Str.ofString "ledgerspeak.codes") 187) Option.none (Value.ref 48) Value.none 0)) #[]) :: (nat_lit 50, Obj.mk (Value.type "tuple") Option.none (Data.seq #[] 0) #[]) :: (nat_lit 53, Obj.mk (Value.type "code") Option.none (Data.fields #[Value.str (Str.ofString "relabelled") 237, Value.str (Str.ofString "relabelled") 238, Value.str (Str.ofString "/claim/cut.py") 239, Value.int 19 0, Value.int 2 0, Value.int 0 0, Value.int 0 0, Value.int 3 0, Value.ref 50, Value.bool Bool.true, Value.int 181 0, Value.ref 51, Value.none, Value.none, Value.none, Value.ref 52, Value.int 240 0, Value.int 19 0, Value.str (Str.ofString "/claim/cut.py") 241]) #[]) :: (nat_lit 54, Obj.mk (Value.type "function") Option.none (Data.func (FuncData.mk (Str.ofString "relabelled") (Str.ofString "relabelled") aP9 (FuncBody.stmts aB9) aS9 3 [] Value.none Value.none Value.none (Value.str (Str.ofString "ledgerspeak.codes") 187) Option.none (Value.ref 53) Value.none 0)) #[]) :: (nat_lit 55, Obj.mk (Value.type "tuple") Option.none (Data.seq #[] 0) #[]) :: (nat_lit 58, Obj.mk (Value.type "code") Option.none (Data.fields #[Value.str (Str.ofString "pressed") 245, Value.str (Str.ofString "pressed") 246, Value.str (Str.ofString "/claim/cut.py") 247, Value.int 28 0, Value.int 2 0, Value.int 0 0, Value.int 0 0, Value.int 3 0, Value.ref 55, Value.bool Bool.true, Value.int 181 0, Value.ref 56, Value.none, Value.none, Value.none, Value.ref 57, Value.int 248 0, Value.int 28 0, Value.str (Str.ofString "/claim/cut.py") 249]) #[]) :: (nat_lit 59, Obj.mk (Value.type "function") Option.none (Data.func (FuncData.mk (Str.ofString "pressed") (Str.ofString "pressed") aP3 (FuncBody.stmts aB3) aS3 3 [] Value.none Value.none Value.none (Value.str (Str.ofString "ledgerspeak.peephole") 243) Option.none (Value.ref 58) Value.none 0)) #[]) :: (nat_lit 60, Obj.mk (Value.type "tuple") Option.none (Data.seq #[Value.type "Exception"] 0) #[]) :: (nat_lit 67, Obj.mk (Value.type "tuple") Option.none (Data.seq #[Value.int 0 265, Value.int 0 266] 0) #[]) :: (nat_lit 68, Obj.mk (Value.type "tuple") Option.none (Data.seq #[Value.ref 67] 0) #[]) :: (nat_lit 69, Obj.mk (Value.type "tuple") Option.none (Data.seq #[] 0) #[]) :: (nat_lit 71, Obj.mk (Value.type "tuple") Option.none (Data.seq #[Value.str (Str.ofString "self") 270, Value.str (Str.ofString "what") 271, Value.str (Str.ofString "at") 272] 0) #[]) :: (nat_lit 72, Obj.mk (Value.type "tuple") Option.none (Data.seq #[] 0) #[]) :: (nat_lit 74, Obj.mk (Value.type "code") Option.none (Data.fields #[Value.str (Str.ofString "__init__") 267, Value.str (Str.ofString "LedgerError.__init__") 268, Value.str (Str.ofString "/claim/cut.py") 269, Value.int 43 0, Value.int 3 0, Value.int 0 0, Value.int 0 0, Value.int 3 0, Value.ref 69, Value.bool Bool.true, Value.int 181 0, Value.ref 70, Value.none, Value.ref 71, Value.ref 72, Value.ref 73, Value.int 273 0, Value.int 43 0, Value.str (Str.ofString "/claim/cut.py") 274]) #[]) :: (nat_lit 75, Obj.mk (Value.type "function") Option.none (Data.func (FuncData.mk (Str.ofString "__init__") (Str.ofString "LedgerError.__init__") aP2 (FuncBody.stmts aB2) aS2 3 [] (Value.ref 68) Value.none Value.none (Value.str (Str.ofString "ledgerspeak.errors") 251) Option.none (Value.ref 74) Value.none 0)) #[]) :: (nat_lit 76, Obj.mk (Value.type "tuple") Option.none (Data.seq #[] 0) #[]) :: (nat_lit 78, Obj.mk (Value.type "tuple") Option.none (Data.seq #[Value.str (Str.ofString "self") 279] 0) #[]) :: (nat_lit 79, Obj.mk (Value.type "tuple") Option.none (Data.seq #[] 0) #[]) :: (nat_lit 81, Obj.mk (Value.type "code") Option.none (Data.fields #[Value.str (Str.ofString "told") 276, Value.str (Str.ofString "LedgerError.told") 277, Value.str (Str.ofString "/claim/cut.py") 278, Value.int 48 0, Value.int 1 0, Value.int 0 0, Value.int 0 0, Value.int 3 0, Value.ref 76, Value.bool Bool.true, Value.int 181 0, Value.ref 77, Value.none, Value.ref 78, Value.ref 79, Value.ref 80, Value.int 280 0, Value.int 48 0, Value.str (Str.ofString "/claim/cut.py") 281]) #[]) :: (nat_lit 82, Obj.mk (Value.type "function") Option.none (Data.func (FuncData.mk (Str.ofString "told") (Str.ofString "LedgerError.told") aP8 (FuncBody.stmts aB8) aS8 3 [] Value.none Value.none Value.none (Value.str (Str.ofString "ledgerspeak.errors") 251) Option.none (Value.ref 81) Value.none 0)) #[]) :: (nat_lit 83, Obj.mk (Value.type "tuple") Option.none (Data.seq #[Value.str (Str.ofString "at") 283, Value.str (Str.ofString "what") 284] 0) #[]) :: (nat_lit 84, Obj.mk (Value.type "dict") Option.none (Data.dict #[DictEntry.mk (PyData.keyHash P (Str.ofString "__module__")) (Value.str (Str.ofString "__module__") 260) (Value.str (Str.ofString "ledgerspeak.errors") 251), DictEntry.mk (PyData.keyHash P (Str.ofString "__firstlineno__")) (Value.str (Str.ofString "__firstlineno__") 264) (Value.int 41 263), DictEntry.mk (PyData.keyHash P (Str.ofString "__init__")) (Value.str (Str.ofString "__init__") 275) (Value.ref 75), DictEntry.mk (PyData.keyHash P (Str.ofString "told")) (Value.str (Str.ofString "told") 282) (Value.ref 82), DictEntry.mk (PyData.keyHash P (Str.ofString "__static_attributes__")) (Value.str (Str.ofString "__static_attributes__") 285) (Value.ref 83), DictEntry.mk (PyData.keyHash P (Str.ofString "__weakref__")) (Value.str (Str.ofString "__weakref__") 287) (Value.ref 86), DictEntry.mk (PyData.keyHash P (Str.ofString "__doc__")) (Value.str (Str.ofString "__doc__") 288) Value.none] 3) #[]) :: (nat_lit 85, Obj.mk (Value.type "type") Option.none (Data.cls (ClassData.mk (Str.ofString "LedgerError") [Value.type "Exception"] [Value.ref 85, Value.type "Exception", Value.type "BaseException", Value.type "object"] 84 (Str.ofString "LedgerError") Bool.true [] [Value.ref 98, Value.ref 110, Value.ref 122] Bool.false Option.none Bool.false)) #[Option.some (Value.ref 60), Option.none, Option.some (Value.str (Str.ofString "LedgerError") 253), Option.some (Value.str (Str.ofString "LedgerError") 261), Option.some (Value.builtin "Exception.__new__"), Option.some (Value.bool Bool.true)]) :: (nat_lit 86, Obj.mk (Value.type "getset_descriptor") Option.none (Data.fields #[Value.str (Str.ofString "__weakref__") 286, Value.ref 85, Value.builtin "ExceptionGroup.__weakref__", Value.none]) #[]) :: (nat_lit 89, Obj.mk (Value.type "tuple") Option.none (Data.seq #[Value.ref 85] 0) #[]) :: (nat_lit 96, Obj.mk (Value.type "tuple") Option.none (Data.seq #[] 0) #[]) :: (nat_lit 97, Obj.mk (Value.type "dict") Option.none (Data.dict #[DictEntry.mk (PyData.keyHash P (Str.ofString "__module__")) (Value.str (Str.ofString "__module__") 300) (Value.str (Str.ofString "ledgerspeak.errors") 251), DictEntry.mk (PyData.keyHash P (Str.ofString "__firstlineno__")) (Value.str (Str.ofString "__firstlineno__") 304) (Value.int 50 303), DictEntry.mk (PyData.keyHash P (Str.ofString "__static_attributes__")) (Value.str (Str.ofString "__static_attributes__") 305) (Value.ref 96), DictEntry.mk (PyData.keyHash P (Str.ofString "__doc__")) (Value.str (Str.ofString "__doc__") 306) Value.none] 2) #[]) :: (nat_lit 98, Obj.mk (Value.type "type") Option.none (Data.cls (ClassData.mk (Str.ofString "RunFault") [Value.ref 85] [Value.ref 98, Value.ref 85, Value.type "Exception", Value.type "BaseException", Value.type "object"] 97 (Str.ofString "RunFault") Bool.true [] [] Bool.false Option.none Bool.false)) #[Option.some (Value.ref 89), Option.none, Option.some (Value.str (Str.ofString "RunFault") 293), Option.some (Value.str (Str.ofString "RunFault") 301), Option.some (Value.builtin "Exception.__new__"), Option.some (Value.bool Bool.true)]) :: (nat_lit 101, Obj.mk (Value.type "tuple") Option.none (Data.seq #[Value.ref 85] 0) #[]) :: (nat_lit 108, Obj.mk (Value.type "tuple") Option.none (Data.seq #[] 0) #[]) :: (nat_lit 109, Obj.mk (Value.type "dict") Option.none (Data.dict #[DictEntry.mk (PyData.keyHash P (Str.ofString "__module__")) (Value.str (Str.ofString "__module__") 316) (Value.str (Str.ofString "ledgerspeak.errors") 251), DictEntry.mk (PyData.keyHash P (Str.ofString "__firstlineno__")) (Value.str (Str.ofString "__firstlineno__") 320) (Value.int 52 319), DictEntry.mk (PyData.keyHash P (Str.ofString "__static_attributes__")) (Value.str (Str.ofString "__static_attributes__") 321) (Value.ref 108), DictEntry.mk (PyData.keyHash P (Str.ofString "__doc__")) (Value.str (Str.ofString "__doc__") 322) Value.none] 2) #[]) :: (nat_lit 110, Obj.mk (Value.type "type") Option.none (Data.cls (ClassData.mk (Str.ofString "SizeFault") [Value.ref 85] [Value.ref 110, Value.ref 85, Value.type "Exception", Value.type "BaseException", Value.type "object"] 109 (Str.ofString "SizeFault") Bool.true [] [] Bool.false Option.none Bool.false)) #[Option.some (Value.ref 101), Option.none, Option.some (Value.str (Str.ofString "SizeFault") 309), Option.some (Value.str (Str.ofString "SizeFault") 317), Option.some (Value.builtin "Exception.__new__"), Option.some (Value.bool Bool.true)]) :: (nat_lit 113, Obj.mk (Value.type "tuple") Option.none (Data.seq #[Value.ref 85] 0) #[]) :: (nat_lit 120, Obj.mk (Value.type "tuple") Option.none (Data.seq #[] 0) #[]) :: (nat_lit 121, Obj.mk (Value.type "dict") Option.none (Data.dict #[DictEntry.mk (PyData.keyHash P (Str.ofString "__module__")) (Value.str (Str.ofString "__module__") 332) (Value.str (Str.ofString "ledgerspeak.errors") 251), DictEntry.mk (PyData.keyHash P (Str.ofString "__firstlineno__")) (Value.str (Str.ofString "__firstlineno__") 336) (Value.int 54 335), DictEntry.mk (PyData.keyHash P (Str.ofString "__static_attributes__")) (Value.str (Str.ofString "__static_attributes__") 337) (Value.ref 120), DictEntry.mk (PyData.keyHash P (Str.ofString "__doc__")) (Value.str (Str.ofString "__doc__") 338) Value.none] 2) #[]) :: (nat_lit 122, Obj.mk (Value.type "type") Option.none (Data.cls (ClassData.mk (Str.ofString "StepFault") [Value.ref 85] [Value.ref 122, Value.ref 85, Value.type "Exception", Value.type "BaseException", Value.type "object"] 121 (Str.ofString "StepFault") Bool.true [] [] Bool.false Option.none Bool.false)) #[Option.some (Value.ref 113), Option.none, Option.some (Value.str (Str.ofString "StepFault") 325), Option.some (Value.str (Str.ofString "StepFault") 333), Option.some (Value.builtin "Exception.__new__"), Option.some (Value.bool Bool.true)]) :: (nat_lit 125, Obj.mk (Value.type "tuple") Option.none (Data.seq #[] 0) #[]) :: (nat_lit 127, Obj.mk (Value.type "tuple") Option.none (Data.seq #[Value.str (Str.ofString "top") 352, Value.str (Str.ofString "bottom") 353] 0) #[]) :: (nat_lit 128, Obj.mk (Value.type "tuple") Option.none (Data.seq #[] 0) #[]) :: (nat_lit 130, Obj.mk (Value.type "code") Option.none (Data.fields #[Value.str (Str.ofString "cut_quotient") 349, Value.str (Str.ofString "cut_quotient") 350, Value.str (Str.ofString "/claim/cut.py") 351, Value.int 60 0, Value.int 2 0, Value.int 0 0, Value.int 0 0, Value.int 3 0, Value.ref 125, Value.bool Bool.true, Value.int 181 0, Value.ref 126, Value.none, Value.ref 127, Value.ref 128, Value.ref 129, Value.int 354 0, Value.int 60 0, Value.str (Str.ofString "/claim/cut.py") 355]) #[]) :: (nat_lit 131, Obj.mk (Value.type "function") Option.none (Data.func (FuncData.mk (Str.ofString "cut_quotient") (Str.ofString "cut_quotient") aP17 (FuncBody.stmts aB17) aS17 3 [] Value.none Value.none Value.none (Value.str (Str.ofString "ledgerspeak.decimals") 341) Option.none (Value.ref 130) Value.none 0)) #[]) :: (nat_lit 132, Obj.mk (Value.type "tuple") Option.none (Data.seq #[Value.int 0 357] 0) #[]) :: (nat_lit 133, Obj.mk (Value.type "tuple") Option.none (Data.seq #[] 0) #[]) :: (nat_lit 135, Obj.mk (Value.type "tuple") Option.none (Data.seq #[Value.str (Str.ofString "units") 361, Value.str (Str.ofString "scale") 362] 0) #[]) :: (nat_lit 136, Obj.mk (Value.type "tuple") Option.none (Data.seq #[] 0) #[]) :: (nat_lit 138, Obj.mk (Value.type "code") Option.none (Data.fields #[Value.str (Str.ofString "decimal") 358, Value.str (Str.ofString "decimal") 359, Value.str (Str.ofString "/claim/cut.py") 360, Value.int 64 0, Value.int 2 0, Value.int 0 0, Value.int 0 0, Value.int 3 0, Value.ref 133, Value.bool Bool.true, Value.int 181 0, Value.ref 134, Value.none, Value.ref 135, Value.ref 136, Value.ref 137, Value.int 363 0, Value.int 64 0, Value.str (Str.ofString "/claim/cut.py") 364]) #[]) :: (nat_lit 139, Obj.mk (Value.type "function") Option.none (Data.func (FuncData.mk (Str.ofString "decimal") (Str.ofString "decimal") aP19 (FuncBody.stmts aB19) aS19 3 [] (Value.ref 132) Value.none Value.none (Value.str (Str.ofString "ledgerspeak.decimals") 341) Option.none (Value.ref 138) Value.none 0)) #[]) :: (nat_lit 140, Obj.mk (Value.type "tuple") Option.none (Data.seq #[] 0) #[]) :: (nat_lit 142, Obj.mk (Value.type "tuple") Option.none (Data.seq #[Value.str (Str.ofString "units") 369, Value.str (Str.ofString "scale") 370] 0) #[]) :: (nat_lit 143, Obj.mk (Value.type "tuple") Option.none (Data.seq #[] 0) #[]) :: (nat_lit 145, Obj.mk (Value.type "code") Option.none (Data.fields #[Value.str (Str.ofString "kept") 366, Value.str (Str.ofString "kept") 367, Value.str (Str.ofString "/claim/cut.py") 368, Value.int 71 0, Value.int 2 0, Value.int 0 0, Value.int 0 0, Value.int 3 0, Value.ref 140, Value.bool Bool.true, Value.int 181 0, Value.ref 141, Value.none, Value.ref 142, Value.ref 143, Value.ref 144, Value.int 371 0, Value.int 71 0, Value.str (Str.ofString "/claim/cut.py") 372]) #[]) :: (nat_lit 146, Obj.mk (Value.type "function") Option.none (Data.func (FuncData.mk (Str.ofString "kept") (Str.ofString "kept") aP32 (FuncBody.stmts aB32) aS32 3 [] Value.none Value.none Value.none (Value.str (Str.ofString "ledgerspeak.decimals") 341) Option.none (Value.ref 145) Value.none 0)) #[]) :: (nat_lit 147, Obj.mk (Value.type "tuple") Option.none (Data.seq #[] 0) #[]) :: (nat_lit 149, Obj.mk (Value.type "tuple") Option.none (Data.seq #[Value.str (Str.ofString "a") 377, Value.str (Str.ofString "b") 378, Value.str (Str.ofString "scale") 379] 0) #[]) :: (nat_lit 150, Obj.mk (Value.type "tuple") Option.none (Data.seq #[] 0) #[]) :: (nat_lit 152, Obj.mk (Value.type "code") Option.none (Data.fields #[Value.str (Str.ofString "units_beside") 374, Value.str (Str.ofString "units_beside") 375, Value.str (Str.ofString "/claim/cut.py") 376, Value.int 78 0, Value.int 2 0, Value.int 0 0, Value.int 0 0, Value.int 3 0, Value.ref 147, Value.bool Bool.true, Value.int 181 0, Value.ref 148, Value.none, Value.ref 149, Value.ref 150, Value.ref 151, Value.int 380 0, Value.int 78 0, Value.str (Str.ofString "/claim/cut.py") 381]) #[]) :: (nat_lit 153, Obj.mk (Value.type "function") Option.none (Data.func (FuncData.mk (Str.ofString "units_beside") (Str.ofString "units_beside") aP15 (FuncBody.stmts aB15) aS15 3 [] Value.none Value.none Value.none (Value.str (Str.ofString "ledgerspeak.decimals") 341) Option.none (Value.ref 152) Value.none 0)) #[]) :: (nat_lit 154, Obj.mk (Value.type "tuple") Option.none (Data.seq #[] 0) #[]) :: (nat_lit 156, Obj.mk (Value.type "tuple") Option.none (Data.seq #[Value.str (Str.ofString "a") 386, Value.str (Str.ofString "b") 387, Value.str (Str.ofString "first") 388, Value.str (Str.ofString "second") 389, Value.str (Str.ofString "scale") 390] 0) #[]) :: (nat_lit 157, Obj.mk (Value.type "tuple") Option.none (Data.seq #[] 0) #[]) :: (nat_lit 159, Obj.mk (Value.type "code") Option.none (Data.fields #[Value.str (Str.ofString "plus") 383, Value.str (Str.ofString "plus") 384, Value.str (Str.ofString "/claim/cut.py") 385, Value.int 81 0, Value.int 2 0, Value.int 0 0, Value.int 0 0, Value.int 3 0, Value.ref 154, Value.bool Bool.true, Value.int 181 0, Value.ref 155, Value.none, Value.ref 156, Value.ref 157, Value.ref 158, Value.int 391 0, Value.int 81 0, Value.str (Str.ofString "/claim/cut.py") 392]) #[]) :: (nat_lit 160, Obj.mk (Value.type "function") Option.none (Data.func (FuncData.mk (Str.ofString "plus") (Str.ofString "plus") aP30 (FuncBody.stmts aB30) aS14 3 [] Value.none Value.none Value.none (Value.str (Str.ofString "ledgerspeak.decimals") 341) Option.none (Value.ref 159) Value.none 0)) #[]) :: (nat_lit 161, Obj.mk (Value.type "tuple") Option.none (Data.seq #[] 0) #[]) :: (nat_lit 163, Obj.mk (Value.type "tuple") Option.none (Data.seq #[Value.str (Str.ofString "a") 397, Value.str (Str.ofString "b") 398, Value.str (Str.ofString "first") 399, Value.str (Str.ofString "second") 400, Value.str (Str.ofString "scale") 401] 0) #[]) :: (nat_lit 164, Obj.mk (Value.type "tuple") Option.none (Data.seq #[] 0) #[]) :: (nat_lit 166, Obj.mk (Value.type "code") Option.none (Data.fields #[Value.str (Str.ofString "minus") 394, Value.str (Str.ofString "minus") 395, Value.str (Str.ofString "/claim/cut.py") 396, Value.int 84 0, Value.int 2 0, Value.int 0 0, Value.int 0 0, Value.int 3 0, Value.ref 161, Value.bool Bool.true, Value.int 181 0, Value.ref 162, Value.none, Value.ref 163, Value.ref 164, Value.ref 165, Value.int 402 0, Value.int 84 0, Value.str (Str.ofString "/claim/cut.py") 403]) #[]) :: (nat_lit 167, Obj.mk (Value.type "function") Option.none (Data.func (FuncData.mk (Str.ofString "minus") (Str.ofString "minus") aP14 (FuncBody.stmts aB14) aS14 3 [] Value.none Value.none Value.none (Value.str (Str.ofString "ledgerspeak.decimals") 341) Option.none (Value.ref 166) Value.none 0)) #[]) :: (nat_lit 168, Obj.mk (Value.type "tuple") Option.none (Data.seq #[] 0) #[]) :: (nat_lit 170, Obj.mk (Value.type "tuple") Option.none (Data.seq #[Value.str (Str.ofString "a") 408, Value.str (Str.ofString "b") 409] 0) #[]) :: (nat_lit 171, Obj.mk (Value.type "tuple") Option.none (Data.seq #[] 0) #[]) :: (nat_lit 173, Obj.mk (Value.type "code") Option.none (Data.fields #[Value.str (Str.ofString "times") 405, Value.str (Str.ofString "times") 406, Value.str (Str.ofString "/claim/cut.py") 407, Value.int 87 0, Value.int 2 0, Value.int 0 0, Value.int 0 0, Value.int 3 0, Value.ref 168, Value.bool Bool.true, Value.int 181 0, Value.ref 169, Value.none, Value.ref 170, Value.ref 171, Value.ref 172, Value.int 410 0, Value.int 87 0, Value.str (Str.ofString "/claim/cut.py") 411]) #[]) :: (nat_lit 174, Obj.mk (Value.type "function") Option.none (Data.func (FuncData.mk (Str.ofString "times") (Str.ofString "times") aP35 (FuncBody.stmts aB35) aS35 3 [] Value.none Value.none Value.none (Value.str (Str.ofString "ledgerspeak.decimals") 341) Option.none (Value.ref 173) Value.none 0)) #[]) :: (nat_lit 175, Obj.mk (Value.type "tuple") Option.none (Data.seq #[] 0) #[]) :: (nat_lit 177, Obj.mk (Value.type "tuple") Option.none (Data.seq #[Value.str (Str.ofString "a") 416] 0) #[]) :: (nat_lit 178, Obj.mk (Value.type "tuple") Option.none (Data.seq #[] 0) #[]) :: (nat_lit 180, Obj.mk (Value.type "code") Option.none (Data.fields #[Value.str (Str.ofString "negated") 413, Value.str (Str.ofString "negated") 414, Value.str (Str.ofString "/claim/cut.py") 415, Value.int 89 0, Value.int 1 0, Value.int 0 0, Value.int 0 0, Value.int 3 0, Value.ref 175, Value.bool Bool.true, Value.int 181 0, Value.ref 176, Value.none, Value.ref 177, Value.ref 178, Value.ref 179, Value.int 417 0, Value.int 89 0, Value.str (Str.ofString "/claim/cut.py") 418]) #[]) :: (nat_lit 181, Obj.mk (Value.type "function") Option.none (Data.func (FuncData.mk (Str.ofString "negated") (Str.ofString "negated") aP18 (FuncBody.stmts aB18) aS18 3 [] Value.none Value.none Value.none (Value.str (Str.ofString "ledgerspeak.decimals") 341) Option.none (Value.ref 180) Value.none 0)) #[]) :: (nat_lit 182, Obj.mk (Value.type "tuple") Option.none (Data.seq #[Value.int 30 343] 0) #[]) :: (nat_lit 183, Obj.mk (Value.type "tuple") Option.none (Data.seq #[] 0) #[]) :: (nat_lit 185, Obj.mk (Value.type "tuple") Option.none (Data.seq #[Value.str (Str.ofString "a") 423, Value.str (Str.ofString "b") 424, Value.str (Str.ofString "many") 425] 0) #[]) :: (nat_lit 186, Obj.mk (Value.type "tuple") Option.none (Data.seq #[] 0) #[]) :: (nat_lit 188, Obj.mk (Value.type "code") Option.none (Data.fields #[Value.str (Str.ofString "quotient") 420, Value.str (Str.ofString "quotient") 421, Value.str (Str.ofString "/claim/cut.py") 422, Value.int 91 0, Value.int 3 0, Value.int 0 0, Value.int 0 0, Value.int 3 0, Value.ref 183, Value.bool Bool.true, Value.int 181 0, Value.ref 184, Value.none, Value.ref 185, Value.ref 186, Value.ref 187, Value.int 426 0, Value.int 91 0, Value.str (Str.ofString "/claim/cut.py") 427]) #[]) :: (nat_lit 189, Obj.mk (Value.type "function") Option.none (Data.func (FuncData.mk (Str.ofString "quotient") (Str.ofString "quotient") aP21 (FuncBody.stmts aB21) aS21 3 [] (Value.ref 182) Value.none Value.none (Value.str (Str.ofString "ledgerspeak.decimals") 341) Option.none (Value.ref 188) Value.none 0)) #[]) :: (nat_lit 190, Obj.mk (Value.type "tuple") Option.none (Data.seq #[] 0) #[]) :: (nat_lit 192, Obj.mk (Value.type "tuple") Option.none (Data.seq #[Value.str (Str.ofString "a") 432, Value.str (Str.ofString "b") 433, Value.str (Str.ofString "found") 434, Value.str (Str.ofString "turn") 435] 0) #[]) :: (nat_lit 193, Obj.mk (Value.type "tuple") Option.none (Data.seq #[] 0) #[]) :: (nat_lit 195, Obj.mk (Value.type "code") Option.none (Data.fields #[Value.str (Str.ofString "power") 429, Value.str (Str.ofString "power") 430, Value.str (Str.ofString "/claim/cut.py") 431, Value.int 95 0, Value.int 2 0, Value.int 0 0, Value.int 0 0, Value.int 3 0, Value.ref 190, Value.bool Bool.true, Value.int 181 0, Value.ref 191, Value.none, Value.ref 192, Value.ref 193, Value.ref 194, Value.int 436 0, Value.int 95 0, Value.str (Str.ofString "/claim/cut.py") 437]) #[]) :: (nat_lit 196, Obj.mk (Value.type "function") Option.none (Data.func (FuncData.mk (Str.ofString "power") (Str.ofString "power") aP34 (FuncBody.stmts aB34) aS34 3 [] Value.none Value.none Value.none (Value.str (Str.ofString "ledgerspeak.decimals") 341) Option.none (Value.ref 195) Value.none 0)) #[]) :: (nat_lit 197, Obj.mk (Value.type "tuple") Option.none (Data.seq #[] 0) #[]) :: (nat_lit 199, Obj.mk (Value.type "tuple") Option.none (Data.seq #[Value.str (Str.ofString "a") 442, Value.str (Str.ofString "scale") 443, Value.str (Str.ofString "is_rounded") 444, Value.str (Str.ofString "size") 445, Value.str (Str.ofString "half") 446] 0) #[]) :: (nat_lit 200, Obj.mk (Value.type "tuple") Option.none (Data.seq #[] 0) #[]) :: (nat_lit 202, Obj.mk (Value.type "code") Option.none (Data.fields #[Value.str (Str.ofString "units_at") 439, Value.str (Str.ofString "units_at") 440, Value.str (Str.ofString "/claim/cut.py") 441, Value.int 104 0, Value.int 3 0, Value.int 0 0, Value.int 0 0, Value.int 3 0, Value.ref 197, Value.bool Bool.true, Value.int 181 0, Value.ref 198, Value.none, Value.ref 199, Value.ref 200, Value.ref 201, Value.int 447 0, Value.int 104 0, Value.str (Str.ofString "/claim/cut.py") 448]) #[]) :: (nat_lit 203, Obj.mk (Value.type "function") Option.none (Data.func (FuncData.mk (Str.ofString "units_at") (Str.ofString "units_at") aP20 (FuncBody.stmts aB20) aS20 3 [] Value.none Value.none Value.none (Value.str (Str.ofString "ledgerspeak.decimals") 341) Option.none (Value.ref 202) Value.none 0)) #[]) :: (nat_lit 204, Obj.mk (Value.type "tuple") Option.none (Data.seq #[] 0) #[]) :: (nat_lit 206, Obj.mk (Value.type "tuple") Option.none (Data.seq #[Value.str (Str.ofString "a") 453] 0) #[]) :: (nat_lit 207, Obj.mk (Value.type "tuple") Option.none (Data.seq #[] 0) #[]) :: (nat_lit 209, Obj.mk (Value.type "code") Option.none (Data.fields #[Value.str (Str.ofString "is_whole") 450, Value.str (Str.ofString "is_whole") 451, Value.str (Str.ofString "/claim/cut.py") 452, Value.int 112 0, Value.int 1 0, Value.int 0 0, Value.int 0 0, Value.int 3 0, Value.ref 204, Value.bool Bool.true, Value.int 181 0, Value.ref 205, Value.none, Value.ref 206, Value.ref 207, Value.ref 208, Value.int 454 0, Value.int 112 0, Value.str (Str.ofString "/claim/cut.py") 455]) #[]) :: (nat_lit 210, Obj.mk (Value.type "function") Option.none (Data.func (FuncData.mk (Str.ofString "is_whole") (Str.ofString "is_whole") aP33 (FuncBody.stmts aB33) aS18 3 [] Value.none Value.none Value.none (Value.str (Str.ofString "ledgerspeak.decimals") 341) Option.none (Value.ref 209) Value.none 0)) #[]) :: (nat_lit 211, Obj.mk (Value.type "tuple") Option.none (Data.seq #[] 0) #[]) :: (nat_lit 213, Obj.mk (Value.type "tuple") Option.none (Data.seq #[Value.str (Str.ofString "a") 460] 0) #[]) :: (nat_lit 214, Obj.mk (Value.type "tuple") Option.none (Data.seq #[] 0) #[]) :: (nat_lit 216, Obj.mk (Value.type "code") Option.none (Data.fields #[Value.str (Str.ofString "whole_of") 457, Value.str (Str.ofString "whole_of") 458, Value.str (Str.ofString "/claim/cut.py") 459, Value.int 114 0, Value.int 1 0, Value.int 0 0, Value.int 0 0, Value.int 3 0, Value.ref 211, Value.bool Bool.true, Value.int 181 0, Value.ref 212, Value.none, Value.ref 213, Value.ref 214, Value.ref 215, Value.int 461 0, Value.int 114 0, Value.str (Str.ofString "/claim/cut.py") 462]) #[]) :: (nat_lit 217, Obj.mk (Value.type "function") Option.none (Data.func (FuncData.mk (Str.ofString "whole_of") (Str.ofString "whole_of") aP16 (FuncBody.stmts aB16) aS16 3 [] Value.none Value.none Value.none (Value.str (Str.ofString "ledgerspeak.decimals") 341) Option.none (Value.ref 216) Value.none 0)) #[]) :: (nat_lit 218, Obj.mk (Value.type "tuple") Option.none (Data.seq #[] 0) #[]) :: (nat_lit 220, Obj.mk (Value.type "tuple") Option.none (Data.seq #[Value.str (Str.ofString "units") 467, Value.str (Str.ofString "digits") 468] 0) #[]) :: (nat_lit 221, Obj.mk (Value.type "tuple") Option.none (Data.seq #[] 0) #[]) :: (nat_lit 223, Obj.mk (Value.type "code") Option.none (Data.fields #[Value.str (Str.ofString "fits") 464, Value.str (Str.ofString "fits") 465, Value.str (Str.ofString "/claim/cut.py") 466, Value.int 116 0, Value.int 2 0, Value.int 0 0, Value.int 0 0, Value.int 3 0, Value.ref 218, Value.bool Bool.true, Value.int 181 0, Value.ref 219, Value.none, Value.ref 220, Value.ref 221, Value.ref 222, Value.int 469 0, Value.int 116 0, Value.str (Str.ofString "/claim/cut.py") 470]) #[]) :: (nat_lit 224, Obj.mk (Value.type "function") Option.none (Data.func (FuncData.mk (Str.ofString "fits") (Str.ofString "fits") aP31 (FuncBody.stmts aB31) aS31 3 [] Value.none Value.none Value.none (Value.str (Str.ofString "ledgerspeak.decimals") 341) Option.none (Value.ref 223) Value.none 0)) #[]) :: (nat_lit 232, Obj.mk (Value.type "tuple") Option.none (Data.seq #[] 0) #[]) :: (nat_lit 234, Obj.mk (Value.type "tuple") Option.none (Data.seq #[Value.str (Str.ofString "self") 494, Value.str (Str.ofString "last") 495, Value.str (Str.ofString "behind") 496] 0) #[]) :: (nat_lit 235, Obj.mk (Value.type "tuple") Option.none (Data.seq #[] 0) #[]) :: (nat_lit 237, Obj.mk (Value.type "code") Option.none (Data.fields #[Value.str (Str.ofString "__init__") 491, Value.str (Str.ofString "Frame.__init__") 492, Value.str (Str.ofString "/claim/cut.py") 493, Value.int 123 0, Value.int 3 0, Value.int 0 0, Value.int 0 0, Value.int 3 0, Value.ref 232, Value.bool Bool.true, Value.int 181 0, Value.ref 233, Value.none, Value.ref 234, Value.ref 235, Value.ref 236, Value.int 497 0, Value.int 123 0, Value.str (Str.ofString "/claim/cut.py") 498]) #[]) :: (nat_lit 238, Obj.mk (Value.type "function") Option.none (Data.func (FuncData.mk (Str.ofString "__init__") (Str.ofString "Frame.__init__") aP51 (FuncBody.stmts aB51) aS51 3 [] Value.none Value.none Value.none (Value.str (Str.ofString "ledgerspeak.machine") 472) Option.none (Value.ref 237) Value.none 0)) #[]) :: (nat_lit 239, Obj.mk (Value.type "tuple") Option.none (Data.seq #[Value.str (Str.ofString "behind") 500, Value.str (Str.ofString "last") 501, Value.str (Str.ofString "slots") 502] 0) #[]) :: (nat_lit 240, Obj.mk (Value.type "dict") Option.none (Data.dict #[DictEntry.mk (PyData.keyHash P (Str.ofString "__module__")) (Value.str (Str.ofString "__module__") 486) (Value.str (Str.ofString "ledgerspeak.machine") 472), DictEntry.mk (PyData.keyHash P (Str.ofString "__firstlineno__")) (Value.str (Str.ofString "__firstlineno__") 490) (Value.int 121 489), DictEntry.mk (PyData.keyHash P (Str.ofString "__init__")) (Value.str (Str.ofString "__init__") 499) (Value.ref 238), DictEntry.mk (PyData.keyHash P (Str.ofString "__static_attributes__")) (Value.str (Str.ofString "__static_attributes__") 503) (Value.ref 239), DictEntry.mk (PyData.keyHash P (Str.ofString "__dict__")) (Value.str (Str.ofString "__dict__") 505) (Value.ref 242), DictEntry.mk (PyData.keyHash P (Str.ofString "__weakref__")) (Value.str (Str.ofString "__weakref__") 507) (Value.ref 243), DictEntry.mk (PyData.keyHash P (Str.ofString "__doc__")) (Value.str (Str.ofString "__doc__") 508) Value.none] 4) #[]) :: (nat_lit 241, Obj.mk (Value.type "type") Option.none (Data.cls (ClassData.mk (Str.ofString "Frame") [Value.type "object"] [Value.ref 241, Value.type "object"] 240 (Str.ofString "Frame") Bool.true [] [] Bool.false Option.none Bool.false)) #[Option.none, Option.none, Option.some (Value.str (Str.ofString "Frame") 479), Option.some (Value.str (Str.ofString "Frame") 487), Option.some (Value.builtin "object.__new__"), Option.some (Value.bool Bool.true)]) :: (nat_lit 242, Obj.mk (Value.type "getset_descriptor") Option.none (Data.fields #[Value.str (Str.ofString "__dict__") 504, Value.ref 241, Value.builtin "function.__dict__", Value.builtin "function.__dict__#set"]) #[]) :: (nat_lit 243, Obj.mk (Value.type "getset_descriptor") Option.none (Data.fields #[Value.str (Str.ofString "__weakref__") 506, Value.ref 241, Value.builtin "ExceptionGroup.__weakref__", Value.none]) #[]) :: (nat_lit 253, Obj.mk (Value.type "tuple") Option.none (Data.seq #[] 0) #[]) :: (nat_lit 255, Obj.mk (Value.type "tuple") Option.none (Data.seq #[Value.str (Str.ofString "self") 526, Value.str (Str.ofString "code") 527, Value.str (Str.ofString "deeds") 528] 0) #[]) :: (nat_lit 256, Obj.mk (Value.type "tuple") Option.none (Data.seq #[] 0) #[]) :: (nat_lit 258, Obj.mk (Value.type "code") Option.none (Data.fields #[Value.str (Str.ofString "__init__") 523, Value.str (Str.ofString "Machine.__init__") 524, Value.str (Str.ofString "/claim/cut.py") 525, Value.int 129 0, Value.int 3 0, Value.int 0 0, Value.int 0 0, Value.int 3 0, Value.ref 253, Value.bool Bool.true, Value.int 181 0, Value.ref 254, Value.none, Value.ref 255, Value.ref 256, Value.ref 257, Value.int 529 0, Value.int 129 0, Value.str (Str.ofString "/claim/cut.py") 530]) #[]) :: (nat_lit 259, Obj.mk (Value.type "function") Option.none (Data.func (FuncData.mk (Str.ofString "__init__") (Str.ofString "Machine.__init__") aP43 (FuncBody.stmts aB43) aS43 3 [] Value.none Value.none Value.none (Value.str (Str.ofString "ledgerspeak.machine") 472) Option.none (Value.ref 258) Value.none 0)) #[]) :: (nat_lit 260, Obj.mk (Value.type "tuple") Option.none (Data.seq #[] 0) #[]) :: (nat_lit 262, Obj.mk (Value.type "tuple") Option.none (Data.seq #[Value.str (Str.ofString "self") 535, Value.str (Str.ofString "label") 536] 0) #[]) :: (nat_lit 263, Obj.mk (Value.type "tuple") Option.none (Data.seq #[] 0) #[]) :: (nat_lit 265, Obj.mk (Value.type "code") Option.none (Data.fields #[Value.str (Str.ofString "give_up") 532, Value.str (Str.ofString "Machine.give_up") 533, Value.str (Str.ofString "/claim/cut.py") 534, Value.int 138 0, Value.int 2 0, Value.int 0 0, Value.int 0 0, Value.int 3 0, Value.ref 260, Value.bool Bool.true, Value.int 181 0, Value.ref 261, Value.none, Value.ref 262, Value.ref 263, Value.ref 264, Value.int 537 0, Value.int 138 0, Value.str (Str.ofString "/claim/cut.py") 538]) #[]) :: (nat_lit 266, Obj.mk (Value.type "function") Option.none (Data.func (FuncData.mk (Str.ofString "give_up") (Str.ofString "Machine.give_up") aP48 (FuncBody.stmts aB48) aS48 3 [] Value.none Value.none Value.none (Value.str (Str.ofString "ledgerspeak.machine") 472) Option.none (Value.ref 265) Value.none 0)) #[]) :: (nat_lit 267, Obj.mk (Value.type "tuple") Option.none (Data.seq #[Value.str (Str.ofString "code") 540, Value.str (Str.ofString "deeds") 541, Value.str (Str.ofString "frames") 542, Value.str (Str.ofString "key") 543, Value.str (Str.ofString "place") 544, Value.str (Str.ofString "stack") 545, Value.str (Str.ofString "word") 546] 0) #[]) :: (nat_lit 268, Obj.mk (Value.type "dict") Option.none (Data.dict #[DictEntry.mk (PyData.keyHash P (Str.ofString "__module__")) (Value.str (Str.ofString "__module__") 518) (Value.str (Str.ofString "ledgerspeak.machine") 472), DictEntry.mk (PyData.keyHash P (Str.ofString "__firstlineno__")) (Value.str (Str.ofString "__firstlineno__") 522) (Value.int 127 521), DictEntry.mk (PyData.keyHash P (Str.ofString "__init__")) (Value.str (Str.ofString "__init__") 531) (Value.ref 259), DictEntry.mk (PyData.keyHash P (Str.ofString "give_up")) (Value.str (Str.ofString "give_up") 539) (Value.ref 266), DictEntry.mk (PyData.keyHash P (Str.ofString "__static_attributes__")) (Value.str (Str.ofString "__static_attributes__") 547) (Value.ref 267), DictEntry.mk (PyData.keyHash P (Str.ofString "__dict__")) (Value.str (Str.ofString "__dict__") 549) (Value.ref 270), DictEntry.mk (PyData.keyHash P (Str.ofString "__weakref__")) (Value.str (Str.ofString "__weakref__") 551) (Value.ref 271), DictEntry.mk (PyData.keyHash P (Str.ofString "__doc__")) (Value.str (Str.ofString "__doc__") 552) Value.none] 4) #[]) :: (nat_lit 269, Obj.mk (Value.type "type") Option.none (Data.cls (ClassData.mk (Str.ofString "Machine") [Value.type "object"] [Value.ref 269, Value.type "object"] 268 (Str.ofString "Machine") Bool.true [] [] Bool.false Option.none Bool.false)) #[Option.none, Option.none, Option.some (Value.str (Str.ofString "Machine") 511), Option.some (Value.str (Str.ofString "Machine") 519), Option.some (Value.builtin "object.__new__"), Option.some (Value.bool Bool.true)]) :: (nat_lit 270, Obj.mk (Value.type "getset_descriptor") Option.none (Data.fields #[Value.str (Str.ofString "__dict__") 548, Value.ref 269, Value.builtin "function.__dict__", Value.builtin "function.__dict__#set"]) #[]) :: (nat_lit 271, Obj.mk (Value.type "getset_descriptor") Option.none (Data.fields #[Value.str (Str.ofString "__weakref__") 550, Value.ref 269, Value.builtin "ExceptionGroup.__weakref__", Value.none]) #[]) :: (nat_lit 274, Obj.mk (Value.type "tuple") Option.none (Data.seq #[] 0) #[]) :: (nat_lit 276, Obj.mk (Value.type "tuple") Option.none (Data.seq #[Value.str (Str.ofString "sign") 558, Value.str (Str.ofString "a") 559, Value.str (Str.ofString "b") 560] 0) #[]) :: (nat_lit 277, Obj.mk (Value.type "tuple") Option.none (Data.seq #[] 0) #[]) :: (nat_lit 279, Obj.mk (Value.type "code") Option.none (Data.fields #[Value.str (Str.ofString "calculated") 555, Value.str (Str.ofString "calculated") 556, Value.str (Str.ofString "/claim/cut.py") 557, Value.int 141 0, Value.int 3 0, Value.int 0 0, Value.int 0 0, Value.int 3 0, Value.ref 274, Value.bool Bool.true, Value.int 181 0, Value.ref 275, Value.none, Value.ref 276, Value.ref 277, Value.ref 278, Value.int 561 0, Value.int 141 0, Value.str (Str.ofString "/claim/cut.py") 562]) #[]) :: (nat_lit 280, Obj.mk (Value.type "function") Option.none (Data.func (FuncData.mk (Str.ofString "calculated") (Str.ofString "calculated") aP49 (FuncBody.stmts aB49) aS49 3 [] Value.none Value.none Value.none (Value.str (Str.ofString "ledgerspeak.machine") 472) Option.none (Value.ref 279) Value.none 0)) #[]) :: (nat_lit 281, Obj.mk (Value.type "tuple") Option.none (Data.seq #[] 0) #[]) :: (nat_lit 283, Obj.mk (Value.type "tuple") Option.none (Data.seq #[Value.str (Str.ofString "machine") 567, Value.str (Str.ofString "op") 568, Value.str (Str.ofString "last") 569] 0) #[]) :: (nat_lit 284, Obj.mk (Value.type "tuple") Option.none (Data.seq #[] 0) #[]) :: (nat_lit 286, Obj.mk (Value.type "code") Option.none (Data.fields #[Value.str (Str.ofString "worth_by") 564, Value.str (Str.ofString "worth_by") 565, Value.str (Str.ofString "/claim/cut.py") 566, Value.int 149 0, Value.int 2 0, Value.int 0 0, Value.int 0 0, Value.int 3 0, Value.ref 281, Value.bool Bool.true, Value.int 181 0, Value.ref 282, Value.none, Value.ref 283, Value.ref 284, Value.ref 285, Value.int 570 0, Value.int 149 0, Value.str (Str.ofString "/claim/cut.py") 571]) #[]) :: (nat_lit 287, Obj.mk (Value.type "function") Option.none (Data.func (FuncData.mk (Str.ofString "worth_by") (Str.ofString "worth_by") aP42 (FuncBody.stmts aB42) aS42 3 [] Value.none Value.none Value.none (Value.str (Str.ofString "ledgerspeak.machine") 472) Option.none (Value.ref 286) Value.none 0)) #[]) :: (nat_lit 288, Obj.mk (Value.type "tuple") Option.none (Data.seq #[] 0) #[]) :: (nat_lit 290, Obj.mk (Value.type "tuple") Option.none (Data.seq #[Value.str (Str.ofString "machine") 576, Value.str (Str.ofString "op") 577] 0) #[]) :: (nat_lit 291, Obj.mk (Value.type "tuple") Option.none (Data.seq #[] 0) #[]) :: (nat_lit 293, Obj.mk (Value.type "code") Option.none (Data.fields #[Value.str (Str.ofString "do_reckon") 573, Value.str (Str.ofString "do_reckon") 574, Value.str (Str.ofString "/claim/cut.py") 575, Value.int 154 0, Value.int 2 0, Value.int 0 0, Value.int 0 0, Value.int 3 0, Value.ref 288, Value.bool Bool.true, Value.int 181 0, Value.ref 289, Value.none, Value.ref 290, Value.ref 291, Value.ref 292, Value.int 578 0, Value.int 154 0, Value.str (Str.ofString "/claim/cut.py") 579]) #[]) :: (nat_lit 294, Obj.mk (Value.type "function") Option.none (Data.func (FuncData.mk (Str.ofString "do_reckon") (Str.ofString "do_reckon") aP50 (FuncBody.stmts aB50) aS50 3 [] Value.none Value.none Value.none (Value.str (Str.ofString "ledgerspeak.machine") 472) Option.none (Value.ref 293) Value.none 0)) #[]) :: (nat_lit 295, Obj.mk (Value.type "tuple") Option.none (Data.seq #[] 0) #[]) :: (nat_lit 297, Obj.mk (Value.type "tuple") Option.none (Data.seq #[Value.str (Str.ofString "machine") 584, Value.str (Str.ofString "op") 585] 0) #[]) :: (nat_lit 298, Obj.mk (Value.type "tuple") Option.none (Data.seq #[] 0) #[]) :: (nat_lit 300, Obj.mk (Value.type "code") Option.none (Data.fields #[Value.str (Str.ofString "do_put") 581, Value.str (Str.ofString "do_put") 582, Value.str (Str.ofString "/claim/cut.py") 583, Value.int 161 0, Value.int 2 0, Value.int 0 0, Value.int 0 0, Value.int 3 0, Value.ref 295, Value.bool Bool.true, Value.int 181 0, Value.ref 296, Value.none, Value.ref 297, Value.ref 298, Value.ref 299, Value.int 586 0, Value.int 161 0, Value.str (Str.ofString "/claim/cut.py") 587]) #[]) :: (nat_lit 301, Obj.mk (Value.type "function") Option.none (Data.func (FuncData.mk (Str.ofString "do_put") (Str.ofString "do_put") aP44 (FuncBody.stmts aB44) aS44 3 [] Value.none Value.none Value.none (Value.str (Str.ofString "ledgerspeak.machine") 472) Option.none (Value.ref 300) Value.none 0)) #[]) :: (nat_lit 302, Obj.mk (Value.type "tuple") Option.none (Data.seq #[] 0) #[]) :: (nat_lit 304, Obj.mk (Value.type "tuple") Option.none (Data.seq #[Value.str (Str.ofString "machine") 592, Value.str (Str.ofString "op") 593] 0) #[]) :: (nat_lit 305, Obj.mk (Value.type "tuple") Option.none (Data.seq #[] 0) #[]) :: (nat_lit 307, Obj.mk (Value.type "code") Option.none (Data.fields #[Value.str (Str.ofString "do_deed") 589, Value.str (Str.ofString "do_deed") 590, Value.str (Str.ofString "/claim/cut.py") 591, Value.int 164 0, Value.int 2 0, Value.int 0 0, Value.int 0 0, Value.int 3 0, Value.ref 302, Value.bool Bool.true, Value.int 181 0, Value.ref 303, Value.none, Value.ref 304, Value.ref 305, Value.ref 306, Value.int 594 0, Value.int 164 0, Value.str (Str.ofString "/claim/cut.py") 595]) #[]) :: (nat_lit 308, Obj.mk (Value.type "function") Option.none (Data.func (FuncData.mk (Str.ofString "do_deed") (Str.ofString "do_deed") aP81 (FuncBody.stmts aB81) aS44 3 [] Value.none Value.none Value.none (Value.str (Str.ofString "ledgerspeak.machine") 472) Option.none (Value.ref 307) Value.none 0)) #[]) :: (nat_lit 309, Obj.mk (Value.type "tuple") Option.none (Data.seq #[] 0) #[]) :: (nat_lit 311, Obj.mk (Value.type "tuple") Option.none (Data.seq #[Value.str (Str.ofString "machine") 600, Value.str (Str.ofString "op") 601] 0) #[]) :: (nat_lit 312, Obj.mk (Value.type "tuple") Option.none (Data.seq #[] 0) #[]) :: (nat_lit 314, Obj.mk (Value.type "code") Option.none (Data.fields #[Value.str (Str.ofString "do_key") 597, Value.str (Str.ofString "do_key") 598, Value.str (Str.ofString "/claim/cut.py") 599, Value.int 166 0, Value.int 2 0, Value.int 0 0, Value.int 0 0, Value.int 3 0, Value.ref 309, Value.bool Bool.true, Value.int 181 0, Value.ref 310, Value.none, Value.ref 311, Value.ref 312, Value.ref 313, Value.int 602 0, Value.int 166 0, Value.str (Str.ofString "/claim/cut.py") 603]) #[]) :: (nat_lit 315, Obj.mk (Value.type "function") Option.none (Data.func (FuncData.mk (Str.ofString "do_key") (Str.ofString "do_key") aP65 (FuncBody.stmts aB65) aS44 3 [] Value.none Value.none Value.none (Value.str (Str.ofString "ledgerspeak.machine") 472) Option.none (Value.ref 314) Value.none 0)) #[]) :: (nat_lit 316, Obj.mk (Value.type "tuple") Option.none (Data.seq #[] 0) #[]) :: (nat_lit 318, Obj.mk (Value.type "tuple") Option.none (Data.seq #[Value.str (Str.ofString "machine") 608, Value.str (Str.ofString "op") 609] 0) #[]) :: (nat_lit 319, Obj.mk (Value.type "tuple") Option.none (Data.seq #[] 0) #[]) :: (nat_lit 321, Obj.mk (Value.type "code") Option.none (Data.fields #[Value.str (Str.ofString "do_test") 605, Value.str (Str.ofString "do_test") 606, Value.str (Str.ofString "/claim/cut.py") 607, Value.int 169 0, Value.int 2 0, Value.int 0 0, Value.int 0 0, Value.int 3 0, Value.ref 316, Value.bool Bool.true, Value.int 181 0, Value.ref 317, Value.none, Value.ref 318, Value.ref 319, Value.ref 320, Value.int 610 0, Value.int 169 0, Value.str (Str.ofString "/claim/cut.py") 611]) #[]) :: (nat_lit 322, Obj.mk (Value.type "function") Option.none (Data.func (FuncData.mk (Str.ofString "do_test") (Str.ofString "do_test") aP76 (FuncBody.stmts aB76) aS44 3 [] Value.none Value.none Value.none (Value.str (Str.ofString "ledgerspeak.machine") 472) Option.none (Value.ref 321) Value.none 0)) #[]) :: (nat_lit 323, Obj.mk (Value.type "tuple") Option.none (Data.seq #[] 0) #[]) :: (nat_lit 325, Obj.mk (Value.type "tuple") Option.none (Data.seq #[Value.str (Str.ofString "machine") 616, Value.str (Str.ofString "op") 617] 0) #[]) :: (nat_lit 326, Obj.mk (Value.type "tuple") Option.none (Data.seq #[] 0) #[]) :: (nat_lit 328, Obj.mk (Value.type "code") Option.none (Data.fields #[Value.str (Str.ofString "do_jump") 613, Value.str (Str.ofString "do_jump") 614, Value.str (Str.ofString "/claim/cut.py") 615, Value.int 172 0, Value.int 2 0, Value.int 0 0, Value.int 0 0, Value.int 3 0, Value.ref 323, Value.bool Bool.true, Value.int 181 0, Value.ref 324, Value.none, Value.ref 325, Value.ref 326, Value.ref 327, Value.int 618 0, Value.int 172 0, Value.str (Str.ofString "/claim/cut.py") 619]) #[]) :: (nat_lit 329, Obj.mk (Value.type "function") Option.none (Data.func (FuncData.mk (Str.ofString "do_jump") (Str.ofString "do_jump") aP58 (FuncBody.stmts aB58) aS44 3 [] Value.none Value.none Value.none (Value.str (Str.ofString "ledgerspeak.machine") 472) Option.none (Value.ref 328) Value.none 0)) #[]) :: (nat_lit 330, Obj.mk (Value.type "tuple") Option.none (Data.seq #[] 0) #[]) :: (nat_lit 332, Obj.mk (Value.type "tuple") Option.none (Data.seq #[Value.str (Str.ofString "machine") 624, Value.str (Str.ofString "op") 625, Value.str (Str.ofString "worth") 626] 0) #[]) :: (nat_lit 333, Obj.mk (Value.type "tuple") Option.none (Data.seq #[] 0) #[]) :: (nat_lit 335, Obj.mk (Value.type "code") Option.none (Data.fields #[Value.str (Str.ofString "do_choose") 621, Value.str (Str.ofString "do_choose") 622, Value.str (Str.ofString "/claim/cut.py") 623, Value.int 174 0, Value.int 2 0, Value.int 0 0, Value.int 0 0, Value.int 3 0, Value.ref 330, Value.bool Bool.true, Value.int 181 0, Value.ref 331, Value.none, Value.ref 332, Value.ref 333, Value.ref 334, Value.int 627 0, Value.int 174 0, Value.str (Str.ofString "/claim/cut.py") 628]) #[]) :: (nat_lit 336, Obj.mk (Value.type "function") Option.none (Data.func (FuncData.mk (Str.ofString "do_choose") (Str.ofString "do_choose") aP78 (FuncBody.stmts aB78) aS78 3 [] Value.none Value.none Value.none (Value.str (Str.ofString "ledgerspeak.machine") 472) Option.none (Value.ref 335) Value.none 0)) #[]) :: (nat_lit 337, Obj.mk (Value.type "tuple") Option.none (Data.seq #[] 0) #[]) :: (nat_lit 339, Obj.mk (Value.type "tuple") Option.none (Data.seq #[Value.str (Str.ofString "machine") 633, Value.str (Str.ofString "op") 634] 0) #[]) :: (nat_lit 340, Obj.mk (Value.type "tuple") Option.none (Data.seq #[] 0) #[]) :: (nat_lit 342, Obj.mk (Value.type "code") Option.none (Data.fields #[Value.str (Str.ofString "begin_frame") 630, Value.str (Str.ofString "begin_frame") 631, Value.str (Str.ofString "/claim/cut.py") 632, Value.int 178 0, Value.int 2 0, Value.int 0 0, Value.int 0 0, Value.int 3 0, Value.ref 337, Value.bool Bool.true, Value.int 181 0, Value.ref 338, Value.none, Value.ref 339, Value.ref 340, Value.ref 341, Value.int 635 0, Value.int 178 0, Value.str (Str.ofString "/claim/cut.py") 636]) #[]) :: (nat_lit 343, Obj.mk (Value.type "function") Option.none (Data.func (FuncData.mk (Str.ofString "begin_frame") (Str.ofString "begin_frame") aP60 (FuncBody.stmts aB60) aS60 3 [] Value.none Value.none Value.none (Value.str (Str.ofString "ledgerspeak.machine") 472) Option.none (Value.ref 342) Value.none 0)) #[]) :: (nat_lit 344, Obj.mk (Value.type "tuple") Option.none (Data.seq #[] 0) #[]) :: (nat_lit 346, Obj.mk (Value.type "tuple") Option.none (Data.seq #[Value.str (Str.ofString "machine") 641, Value.str (Str.ofString "op") 642] 0) #[]) :: (nat_lit 347, Obj.mk (Value.type "tuple") Option.none (Data.seq #[] 0) #[]) :: (nat_lit 349, Obj.mk (Value.type "code") Option.none (Data.fields #[Value.str (Str.ofString "leave_frame") 638, Value.str (Str.ofString "leave_frame") 639, Value.str (Str.ofString "/claim/cut.py") 640, Value.int 183 0, Value.int 2 0, Value.int 0 0, Value.int 0 0, Value.int 3 0, Value.ref 344, Value.bool Bool.true, Value.int 181 0, Value.ref 345, Value.none, Value.ref 346, Value.ref 347, Value.ref 348, Value.int 643 0, Value.int 183 0, Value.str (Str.ofString "/claim/cut.py") 644]) #[]) :: (nat_lit 350, Obj.mk (Value.type "function") Option.none (Data.func (FuncData.mk (Str.ofString "leave_frame") (Str.ofString "leave_frame") aP83 (FuncBody.stmts aB83) aS44 3 [] Value.none Value.none Value.none (Value.str (Str.ofString "ledgerspeak.machine") 472) Option.none (Value.ref 349) Value.none 0)) #[]) :: (nat_lit 351, Obj.mk (Value.type "tuple") Option.none (Data.seq #[] 0) #[]) :: (nat_lit 353, Obj.mk (Value.type "tuple") Option.none (Data.seq #[Value.str (Str.ofString "machine") 649, Value.str (Str.ofString "op") 650] 0) #[]) :: (nat_lit 354, Obj.mk (Value.type "tuple") Option.none (Data.seq #[] 0) #[]) :: (nat_lit 356, Obj.mk (Value.type "code") Option.none (Data.fields #[Value.str (Str.ofString "do_count") 646, Value.str (Str.ofString "do_count") 647, Value.str (Str.ofString "/claim/cut.py") 648, Value.int 186 0, Value.int 2 0, Value.int 0 0, Value.int 0 0, Value.int 3 0, Value.ref 351, Value.bool Bool.true, Value.int 181 0, Value.ref 352, Value.none, Value.ref 353, Value.ref 354, Value.ref 355, Value.int 651 0, Value.int 186 0, Value.str (Str.ofString "/claim/cut.py") 652]) #[]) :: (nat_lit 357, Obj.mk (Value.type "function") Option.none (Data.func (FuncData.mk (Str.ofString "do_count") (Str.ofString "do_count") aP61 (FuncBody.stmts aB61) aS61 3 [] Value.none Value.none Value.none (Value.str (Str.ofString "ledgerspeak.machine") 472) Option.none (Value.ref 356) Value.none 0)) #[]) :: (nat_lit 358, Obj.mk (Value.type "tuple") Option.none (Data.seq #[] 0) #[]) :: (nat_lit 360, Obj.mk (Value.type "tuple") Option.none (Data.seq #[Value.str (Str.ofString "machine") 657, Value.str (Str.ofString "op") 658, Value.str (Str.ofString "slots") 659] 0) #[]) :: (nat_lit 361, Obj.mk (Value.type "tuple") Option.none (Data.seq #[] 0) #[]) :: (nat_lit 363, Obj.mk (Value.type "code") Option.none (Data.fields #[Value.str (Str.ofString "do_less") 654, Value.str (Str.ofString "do_less") 655, Value.str (Str.ofString "/claim/cut.py") 656, Value.int 188 0, Value.int 2 0, Value.int 0 0, Value.int 0 0, Value.int 3 0, Value.ref 358, Value.bool Bool.true, Value.int 181 0, Value.ref 359, Value.none, Value.ref 360, Value.ref 361, Value.ref 362, Value.int 660 0, Value.int 188 0, Value.str (Str.ofString "/claim/cut.py") 661]) #[]) :: (nat_lit 364, Obj.mk (Value.type "function") Option.none (Data.func (FuncData.mk (Str.ofString "do_less") (Str.ofString "do_less") aP82 (FuncBody.stmts aB82) aS82 3 [] Value.none Value.none Value.none (Value.str (Str.ofString "ledgerspeak.machine") 472) Option.none (Value.ref 363) Value.none 0)) #[]) :: (nat_lit 365, Obj.mk (Value.type "tuple") Option.none (Data.seq #[] 0) #[]) :: (nat_lit 367, Obj.mk (Value.type "tuple") Option.none (Data.seq #[Value.str (Str.ofString "machine") 666, Value.str (Str.ofString "op") 667] 0) #[]) :: (nat_lit 368, Obj.mk (Value.type "tuple") Option.none (Data.seq #[] 0) #[]) :: (nat_lit 370, Obj.mk (Value.type "code") Option.none (Data.fields #[Value.str (Str.ofString "do_stop") 663, Value.str (Str.ofString "do_stop") 664, Value.str (Str.ofString "/claim/cut.py") 665, Value.int 194 0, Value.int 2 0, Value.int 0 0, Value.int 0 0, Value.int 3 0, Value.ref 365, Value.bool Bool.true, Value.int 181 0, Value.ref 366, Value.none, Value.ref 367, Value.ref 368, Value.ref 369, Value.int 668 0, Value.int 194 0, Value.str (Str.ofString "/claim/cut.py") 669]) #[]) :: (nat_lit 371, Obj.mk (Value.type "function") Option.none (Data.func (FuncData.mk (Str.ofString "do_stop") (Str.ofString "do_stop") aP63 (FuncBody.stmts aB63) aS44 3 [] Value.none Value.none Value.none (Value.str (Str.ofString "ledgerspeak.machine") 472) Option.none (Value.ref 370) Value.none 0)) #[]) :: (nat_lit 372, Obj.mk (Value.type "tuple") Option.none (Data.seq #[] 0) #[]) :: (nat_lit 374, Obj.mk (Value.type "tuple") Option.none (Data.seq #[] 0) #[]) :: (nat_lit 375, Obj.mk (Value.type "tuple") Option.none (Data.seq #[] 0) #[]) :: (nat_lit 377, Obj.mk (Value.type "code") Option.none (Data.fields #[Value.str (Str.ofString "op_table") 671, Value.str (Str.ofString "op_table") 672, Value.str (Str.ofString "/claim/cut.py") 673, Value.int 196 0, Value.int 0 0, Value.int 0 0, Value.int 0 0, Value.int 3 0, Value.ref 372, Value.bool Bool.true, Value.int 181 0, Value.ref 373, Value.none, Value.ref 374, Value.ref 375, Value.ref 376, Value.int 674 0, Value.int 196 0, Value.str (Str.ofString "/claim/cut.py") 675]) #[]) :: (nat_lit 378, Obj.mk (Value.type "function") Option.none (Data.func (FuncData.mk (Str.ofString "op_table") (Str.ofString "op_table") aP80 (FuncBody.stmts aB80) aS80 3 [] Value.none Value.none Value.none (Value.str (Str.ofString "ledgerspeak.machine") 472) Option.none (Value.ref 377) Value.none 0)) #[]) :: (nat_lit 379, Obj.mk (Value.type "tuple") Option.none (Data.seq #[] 0) #[]) :: (nat_lit 381, Obj.mk (Value.type "tuple") Option.none (Data.seq #[Value.str (Str.ofString "code") 680, Value.str (Str.ofString "deeds") 681, Value.str (Str.ofString "limit") 682, Value.str (Str.ofString "machine") 683, Value.str (Str.ofString "table") 684, Value.str (Str.ofString "steps") 685, Value.str (Str.ofString "op") 686] 0) #[]) :: (nat_lit 382, Obj.mk (Value.type "tuple") Option.none (Data.seq #[] 0) #[]) :: (nat_lit 384, Obj.mk (Value.type "code") Option.none (Data.fields #[Value.str (Str.ofString "run_code") 677, Value.str (Str.ofString "run_code") 678, Value.str (Str.ofString "/claim/cut.py") 679, Value.int 198 0, Value.int 3 0, Value.int 0 0, Value.int 0 0, Value.int 3 0, Value.ref 379, Value.bool Bool.true, Value.int 181 0, Value.ref 380, Value.none, Value.ref 381, Value.ref 382, Value.ref 383, Value.int 687 0, Value.int 198 0, Value.str (Str.ofString "/claim/cut.py") 688]) #[]) :: (nat_lit 385, Obj.mk (Value.type "function") Option.none (Data.func (FuncData.mk (Str.ofString "run_code") (Str.ofString "run_code") aP56 (FuncBody.stmts aB56) aS56 3 [] Value.none Value.none Value.none (Value.str (Str.ofString "ledgerspeak.machine") 472) Option.none (Value.ref 384) Value.none 0)) #[]) :: (nat_lit 393, Obj.mk (Value.type "tuple") Option.none (Data.seq #[] 0) #[]) :: (nat_lit 395, Obj.mk (Value.type "tuple") Option.none (Data.seq #[Value.str (Str.ofString "self") 707, Value.str (Str.ofString "do") 708, Value.str (Str.ofString "test") 709, Value.str (Str.ofString "number") 710, Value.str (Str.ofString "put") 711] 0) #[]) :: (nat_lit 396, Obj.mk (Value.type "tuple") Option.none (Data.seq #[] 0) #[]) :: (nat_lit 398, Obj.mk (Value.type "code") Option.none (Data.fields #[Value.str (Str.ofString "__init__") 704, Value.str (Str.ofString "Deeds.__init__") 705, Value.str (Str.ofString "/claim/cut.py") 706, Value.int 215 0, Value.int 5 0, Value.int 0 0, Value.int 0 0, Value.int 3 0, Value.ref 393, Value.bool Bool.true, Value.int 181 0, Value.ref 394, Value.none, Value.ref 395, Value.ref 396, Value.ref 397, Value.int 712 0, Value.int 215 0, Value.str (Str.ofString "/claim/cut.py") 713]) #[]) :: (nat_lit 399, Obj.mk (Value.type "function") Option.none (Data.func (FuncData.mk (Str.ofString "__init__") (Str.ofString "Deeds.__init__") aP57 (FuncBody.stmts aB57) aS57 3 [] Value.none Value.none Value.none (Value.str (Str.ofString "ledgerspeak.runner") 690) Option.none (Value.ref 398) Value.none 0)) #[]) :: (nat_lit 400, Obj.mk (Value.type "tuple") Option.none (Data.seq #[Value.str (Str.ofString "do") 715, Value.str (Str.ofString "number") 716, Value.str (Str.ofString "put") 717, Value.str (Str.ofString "test") 718] 0) #[]) :: (nat_lit 401, Obj.mk (Value.type "dict") Option.none (Data.dict #[DictEntry.mk (PyData.keyHash P (Str.ofString "__module__")) (Value.str (Str.ofString "__module__") 699) (Value.str (Str.ofString "ledgerspeak.runner") 690), DictEntry.mk (PyData.keyHash P (Str.ofString "__firstlineno__")) (Value.str (Str.ofString "__firstlineno__") 703) (Value.int 213 702), DictEntry.mk (PyData.keyHash P (Str.ofString "__init__")) (Value.str (Str.ofString "__init__") 714) (Value.ref 399), DictEntry.mk (PyData.keyHash P (Str.ofString "__static_attributes__")) (Value.str (Str.ofString "__static_attributes__") 719) (Value.ref 400), DictEntry.mk (PyData.keyHash P (Str.ofString "__dict__")) (Value.str (Str.ofString "__dict__") 721) (Value.ref 403), DictEntry.mk (PyData.keyHash P (Str.ofString "__weakref__")) (Value.str (Str.ofString "__weakref__") 723) (Value.ref 404), DictEntry.mk (PyData.keyHash P (Str.ofString "__doc__")) (Value.str (Str.ofString "__doc__") 724) Value.none] 4) #[]) :: (nat_lit 402, Obj.mk (Value.type "type") Option.none (Data.cls (ClassData.mk (Str.ofString "Deeds") [Value.type "object"] [Value.ref 402, Value.type "object"] 401 (Str.ofString "Deeds") Bool.true [] [] Bool.false Option.none Bool.false)) #[Option.none, Option.none, Option.some (Value.str (Str.ofString "Deeds") 692), Option.some (Value.str (Str.ofString "Deeds") 700), Option.some (Value.builtin "object.__new__"), Option.some (Value.bool Bool.true)]) :: (nat_lit 403, Obj.mk (Value.type "getset_descriptor") Option.none (Data.fields #[Value.str (Str.ofString "__dict__") 720, Value.ref 402, Value.builtin "function.__dict__", Value.builtin "function.__dict__#set"]) #[]) :: (nat_lit 404, Obj.mk (Value.type "getset_descriptor") Option.none (Data.fields #[Value.str (Str.ofString "__weakref__") 722, Value.ref 402, Value.builtin "ExceptionGroup.__weakref__", Value.none]) #[]) :: (nat_lit 407, Obj.mk (Value.type "tuple") Option.none (Data.seq #[] 0) #[]) :: (nat_lit 409, Obj.mk (Value.type "tuple") Option.none (Data.seq #[Value.str (Str.ofString "tape") 732, Value.str (Str.ofString "limit") 733, Value.str (Str.ofString "cells") 734, Value.str (Str.ofString "spot") 735, Value.str (Str.ofString "cell") 736] 0) #[]) :: (nat_lit 410, Obj.mk (Value.type "tuple") Option.none (Data.seq #[] 0) #[]) :: (nat_lit 412, Obj.mk (Value.type "code") Option.none (Data.fields #[Value.str (Str.ofString "_law_draw") 729, Value.str (Str.ofString "_law_draw") 730, Value.str (Str.ofString "/claim/cut.py") 731, Value.int 221 0, Value.int 2 0, Value.int 0 0, Value.int 0 0, Value.int 3 0, Value.ref 407, Value.bool Bool.true, Value.int 181 0, Value.ref 408, Value.none, Value.ref 409, Value.ref 410, Value.ref 411, Value.int 737 0, Value.int 221 0, Value.str (Str.ofString "/claim/cut.py") 738]) #[]) :: (nat_lit 413, Obj.mk (Value.type "function") Option.none (Data.func (FuncData.mk (Str.ofString "_law_draw") (Str.ofString "_law_draw") aP64 (FuncBody.stmts aB64) aS64 3 [] Value.none Value.none Value.none (Value.str (Str.ofString "law_pb0246_01") 727) Option.none (Value.ref 412) Value.none 0)) #[]) :: (nat_lit 414, Obj.mk (Value.type "tuple") Option.none (Data.seq #[] 0) #[]) :: (nat_lit 417, Obj.mk (Value.type "code") Option.none (Data.fields #[Value.str (Str.ofString "_law_place") 740, Value.str (Str.ofString "_law_place") 741, Value.str (Str.ofString "/claim/cut.py") 742, Value.int 228 0, Value.int 2 0, Value.int 0 0, Value.int 0 0, Value.int 3 0, Value.ref 414, Value.bool Bool.true, Value.int 181 0, Value.ref 415, Value.none, Value.none, Value.none, Value.ref 416, Value.int 743 0, Value.int 228 0, Value.str (Str.ofString "/claim/cut.py") 744]) #[]) :: (nat_lit 418, Obj.mk (Value.type "function") Option.none (Data.func (FuncData.mk (Str.ofString "_law_place") (Str.ofString "_law_place") aP77 (FuncBody.stmts aB77) aS77 3 [] Value.none Value.none Value.none (Value.str (Str.ofString "law_pb0246_01") 727) Option.none (Value.ref 417) Value.none 0)) #[]) :: (nat_lit 419, Obj.mk (Value.type "tuple") Option.none (Data.seq #[] 0) #[]) :: (nat_lit 421, Obj.mk (Value.type "tuple") Option.none (Data.seq #[Value.str (Str.ofString "ops") 749, Value.str (Str.ofString "cells") 750, Value.str (Str.ofString "do_one") 751, Value.str (Str.ofString "deeds") 752] 0) #[]) :: (nat_lit 422, Obj.mk (Value.type "tuple") Option.none (Data.seq #[Value.str (Str.ofString "cells") 753, Value.str (Str.ofString "done") 754] 0) #[]) :: (nat_lit 424, Obj.mk (Value.type "code") Option.none (Data.fields #[Value.str (Str.ofString "_law_run") 746, Value.str (Str.ofString "_law_run") 747, Value.str (Str.ofString "/claim/cut.py") 748, Value.int 232 0, Value.int 2 0, Value.int 0 0, Value.int 0 0, Value.int 3 0, Value.ref 419, Value.bool Bool.true, Value.int 181 0, Value.ref 420, Value.none, Value.ref 421, Value.ref 422, Value.ref 423, Value.int 755 0, Value.int 232 0, Value.str (Str.ofString "/claim/cut.py") 756]) #[]) :: (nat_lit 425, Obj.mk (Value.type "function") Option.none (Data.func (FuncData.mk (Str.ofString "_law_run") (Str.ofString "_law_run") aP59 (FuncBody.stmts aB59) aS59 3 [] Value.none Value.none Value.none (Value.str (Str.ofString "law_pb0246_01") 727) Option.none (Value.ref 424) Value.none 0)) #[]) :: (nat_lit 426, Obj.mk (Value.type "tuple") Option.none (Data.seq #[] 0) #[]) :: (nat_lit 428, Obj.mk (Value.type "tuple") Option.none (Data.seq #[Value.str (Str.ofString "ops") 761, Value.str (Str.ofString "cells") 762, Value.str (Str.ofString "whole") 763, Value.str (Str.ofString "cut") 764, Value.str (Str.ofString "place") 765, Value.str (Str.ofString "op") 766, Value.str (Str.ofString "left") 767, Value.str (Str.ofString "heads") 768, Value.str (Str.ofString "end") 769, Value.str (Str.ofString "done") 770, Value.str (Str.ofString "other") 771, Value.str (Str.ofString "others") 772] 0) #[]) :: (nat_lit 429, Obj.mk (Value.type "tuple") Option.none (Data.seq #[] 0) #[]) :: (nat_lit 431, Obj.mk (Value.type "code") Option.none (Data.fields #[Value.str (Str.ofString "_law_runs_alike") 758, Value.str (Str.ofString "_law_runs_alike") 759, Value.str (Str.ofString "/claim/cut.py") 760, Value.int 243 0, Value.int 2 0, Value.int 0 0, Value.int 0 0, Value.int 3 0, Value.ref 426, Value.bool Bool.true, Value.int 181 0, Value.ref 427, Value.none, Value.ref 428, Value.ref 429, Value.ref 430, Value.int 773 0, Value.int 243 0, Value.str (Str.ofString "/claim/cut.py") 774]) #[]) :: (nat_lit 432, Obj.mk (Value.type "function") Option.none (Data.func (FuncData.mk (Str.ofString "_law_runs_alike") (Str.ofString "_law_runs_alike") aP79 (FuncBody.stmts aB79) aS79 3 [] Value.none Value.none Value.none (Value.str (Str.ofString "law_pb0246_01") 727) Option.none (Value.ref 431) Value.none 0)) #[]) :: (nat_lit 433, Obj.mk (Value.type "tuple") Option.none (Data.seq #[] 0) #[]) :: (nat_lit 436, Obj.mk (Value.type "code") Option.none (Data.fields #[Value.str (Str.ofString "law") 776, Value.str (Str.ofString "law") 777, Value.str (Str.ofString "/claim/cut.py") 778, Value.int 260 0, Value.int 1 0, Value.int 0 0, Value.int 0 0, Value.int 3 0, Value.ref 433, Value.bool Bool.true, Value.int 181 0, Value.ref 434, Value.none, Value.none, Value.none, Value.ref 435, Value.int 779 0, Value.int 260 0, Value.str (Str.ofString "/claim/cut.py") 780]) #[]) :: (nat_lit 437, Obj.mk (Value.type "function") Option.none (Data.func (FuncData.mk (Str.ofString "law") (Str.ofString "law") aP62 (FuncBody.stmts aB62) aS62 3 [] Value.none Value.none Value.none (Value.str (Str.ofString "law_pb0246_01") 727) Option.none (Value.ref 436) Value.none 0)) #[]) :: []
noncomputable def heap_39 : Params → Frag := by
  intro P
  refine' (?f : ∀ x, K0 P = x → Frag) _ ?h
  case h => (conv => lhs; delta K0 aP0 aB0 aS0 aP1 aB1 aS1 aP2 aB2 aS2 aP3 aB3 aS3 aP8 aB8 aS8 aP9 aB9 aS9 aP10 aB10 aS10 aP14 aB14 aS14 aP15 aB15 aS15 aP16 aB16 aS16 aP17 aB17 aS17 aP18 aB18 aS18 aP19 aB19 aS19 aP20 aB20 aS20 aP21 aB21 aS21 aP30 aB30 aP31 aB31 aS31 aP32 aB32 aS32 aP33 aB33 aP34 aB34 aS34 aP35 aB35 aS35 aP42 aB42 aS42 aP43 aB43 aS43 aP44 aB44 aS44 aP48 aB48 aS48 aP49 aB49 aS49 aP50 aB50 aS50 aP51 aB51 aS51 aP56 aB56 aS56 aP57 aB57 aS57 aP58 aB58 aP59 aB59 aS59 aP60 aB60 aS60 aP61 aB61 aS61 aP62 aB62 aS62 aP63 aB63 aP64 aB64 aS64 aP65 aB65 aP76 aB76 aP77 aB77 aS77 aP78 aB78 aS78 aP79 aB79 aS79 aP80 aB80 aS80 aP81 aB81 aP82 aB82 aS82 aP83 aB83)
  case f => exact fun x _ => x
noncomputable def v1 : Stmt := by
  refine' (?f : ∀ x, st 1 = x → Stmt) _ ?h
  case h => (conv => lhs; whnf)
  case f => exact fun x _ => x
noncomputable def v2 : Stmt := by
  refine' (?f : ∀ x, st 2 = x → Stmt) _ ?h
  case h => (conv => lhs; whnf)
  case f => exact fun x _ => x
noncomputable def v3 : Stmt := by
  refine' (?f : ∀ x, st 3 = x → Stmt) _ ?h
  case h => (conv => lhs; whnf)
  case f => exact fun x _ => x
noncomputable def v4 : Stmt := by
  refine' (?f : ∀ x, st 4 = x → Stmt) _ ?h
  case h => (conv => lhs; whnf)
  case f => exact fun x _ => x
noncomputable def v6 : Stmt := by
  refine' (?f : ∀ x, st 6 = x → Stmt) _ ?h
  case h => (conv => lhs; whnf)
  case f => exact fun x _ => x
noncomputable def v8 : Stmt := by
  refine' (?f : ∀ x, st 8 = x → Stmt) _ ?h
  case h => (conv => lhs; whnf)
  case f => exact fun x _ => x
noncomputable def v9 : Stmt := by
  refine' (?f : ∀ x, st 9 = x → Stmt) _ ?h
  case h => (conv => lhs; whnf)
  case f => exact fun x _ => x
noncomputable def v10 : Stmt := by
  refine' (?f : ∀ x, st 10 = x → Stmt) _ ?h
  case h => (conv => lhs; whnf)
  case f => exact fun x _ => x
noncomputable def v11 : Stmt := by
  refine' (?f : ∀ x, st 11 = x → Stmt) _ ?h
  case h => (conv => lhs; whnf)
  case f => exact fun x _ => x
noncomputable def v13 : Stmt := by
  refine' (?f : ∀ x, st 13 = x → Stmt) _ ?h
  case h => (conv => lhs; whnf)
  case f => exact fun x _ => x
noncomputable def v14 : Stmt := by
  refine' (?f : ∀ x, st 14 = x → Stmt) _ ?h
  case h => (conv => lhs; whnf)
  case f => exact fun x _ => x
noncomputable def v15 : Stmt := by
  refine' (?f : ∀ x, st 15 = x → Stmt) _ ?h
  case h => (conv => lhs; whnf)
  case f => exact fun x _ => x
noncomputable def v16 : Stmt := by
  refine' (?f : ∀ x, st 16 = x → Stmt) _ ?h
  case h => (conv => lhs; whnf)
  case f => exact fun x _ => x
noncomputable def v18 : Stmt := by
  refine' (?f : ∀ x, st 18 = x → Stmt) _ ?h
  case h => (conv => lhs; whnf)
  case f => exact fun x _ => x
noncomputable def v19 : Stmt := by
  refine' (?f : ∀ x, st 19 = x → Stmt) _ ?h
  case h => (conv => lhs; whnf)
  case f => exact fun x _ => x
noncomputable def v20 : Stmt := by
  refine' (?f : ∀ x, st 20 = x → Stmt) _ ?h
  case h => (conv => lhs; whnf)
  case f => exact fun x _ => x
noncomputable def v21 : Stmt := by
  refine' (?f : ∀ x, st 21 = x → Stmt) _ ?h
  case h => (conv => lhs; whnf)
  case f => exact fun x _ => x
noncomputable def v22 : Stmt := by
  refine' (?f : ∀ x, st 22 = x → Stmt) _ ?h
  case h => (conv => lhs; whnf)
  case f => exact fun x _ => x
noncomputable def v23 : Stmt := by
  refine' (?f : ∀ x, st 23 = x → Stmt) _ ?h
  case h => (conv => lhs; whnf)
  case f => exact fun x _ => x
noncomputable def v25 : Stmt := by
  refine' (?f : ∀ x, st 25 = x → Stmt) _ ?h
  case h => (conv => lhs; whnf)
  case f => exact fun x _ => x
noncomputable def v26 : Stmt := by
  refine' (?f : ∀ x, st 26 = x → Stmt) _ ?h
  case h => (conv => lhs; whnf)
  case f => exact fun x _ => x
noncomputable def v27 : Stmt := by
  refine' (?f : ∀ x, st 27 = x → Stmt) _ ?h
  case h => (conv => lhs; whnf)
  case f => exact fun x _ => x
noncomputable def v28 : Stmt := by
  refine' (?f : ∀ x, st 28 = x → Stmt) _ ?h
  case h => (conv => lhs; whnf)
  case f => exact fun x _ => x
noncomputable def v29 : Stmt := by
  refine' (?f : ∀ x, st 29 = x → Stmt) _ ?h
  case h => (conv => lhs; whnf)
  case f => exact fun x _ => x
noncomputable def v31 : Stmt := by
  refine' (?f : ∀ x, st 31 = x → Stmt) _ ?h
  case h => (conv => lhs; whnf)
  case f => exact fun x _ => x
noncomputable def v32 : Stmt := by
  refine' (?f : ∀ x, st 32 = x → Stmt) _ ?h
  case h => (conv => lhs; whnf)
  case f => exact fun x _ => x
noncomputable def v33 : Stmt := by
  refine' (?f : ∀ x, st 33 = x → Stmt) _ ?h
  case h => (conv => lhs; whnf)
  case f => exact fun x _ => x
noncomputable def v34 : Stmt := by
  refine' (?f : ∀ x, st 34 = x → Stmt) _ ?h
  case h => (conv => lhs; whnf)
  case f => exact fun x _ => x
noncomputable def v35 : Stmt := by
  refine' (?f : ∀ x, st 35 = x → Stmt) _ ?h
  case h => (conv => lhs; whnf)
  case f => exact fun x _ => x
noncomputable def v36 : Stmt := by
  refine' (?f : ∀ x, st 36 = x → Stmt) _ ?h
  case h => (conv => lhs; whnf)
  case f => exact fun x _ => x
noncomputable def v37 : Stmt := by
  refine' (?f : ∀ x, st 37 = x → Stmt) _ ?h
  case h => (conv => lhs; whnf)
  case f => exact fun x _ => x
noncomputable def v38 : Stmt := by
  refine' (?f : ∀ x, st 38 = x → Stmt) _ ?h
  case h => (conv => lhs; whnf)
  case f => exact fun x _ => x
noncomputable def v39 : Stmt := by
  refine' (?f : ∀ x, st 39 = x → Stmt) _ ?h
  case h => (conv => lhs; whnf)
  case f => exact fun x _ => x
noncomputable def v40 : Stmt := by
  refine' (?f : ∀ x, st 40 = x → Stmt) _ ?h
  case h => (conv => lhs; whnf)
  case f => exact fun x _ => x
noncomputable def v41 : Stmt := by
  refine' (?f : ∀ x, st 41 = x → Stmt) _ ?h
  case h => (conv => lhs; whnf)
  case f => exact fun x _ => x
noncomputable def v42 : Stmt := by
  refine' (?f : ∀ x, st 42 = x → Stmt) _ ?h
  case h => (conv => lhs; whnf)
  case f => exact fun x _ => x
noncomputable def v43 : Stmt := by
  refine' (?f : ∀ x, st 43 = x → Stmt) _ ?h
  case h => (conv => lhs; whnf)
  case f => exact fun x _ => x
noncomputable def v44 : Stmt := by
  refine' (?f : ∀ x, st 44 = x → Stmt) _ ?h
  case h => (conv => lhs; whnf)
  case f => exact fun x _ => x
noncomputable def v45 : Stmt := by
  refine' (?f : ∀ x, st 45 = x → Stmt) _ ?h
  case h => (conv => lhs; whnf)
  case f => exact fun x _ => x
noncomputable def v46 : Stmt := by
  refine' (?f : ∀ x, st 46 = x → Stmt) _ ?h
  case h => (conv => lhs; whnf)
  case f => exact fun x _ => x
noncomputable def v47 : Stmt := by
  refine' (?f : ∀ x, st 47 = x → Stmt) _ ?h
  case h => (conv => lhs; whnf)
  case f => exact fun x _ => x
noncomputable def v48 : Stmt := by
  refine' (?f : ∀ x, st 48 = x → Stmt) _ ?h
  case h => (conv => lhs; whnf)
  case f => exact fun x _ => x
noncomputable def v49 : Stmt := by
  refine' (?f : ∀ x, st 49 = x → Stmt) _ ?h
  case h => (conv => lhs; whnf)
  case f => exact fun x _ => x
noncomputable def v50 : Stmt := by
  refine' (?f : ∀ x, st 50 = x → Stmt) _ ?h
  case h => (conv => lhs; whnf)
  case f => exact fun x _ => x
noncomputable def v52 : Stmt := by
  refine' (?f : ∀ x, st 52 = x → Stmt) _ ?h
  case h => (conv => lhs; whnf)
  case f => exact fun x _ => x
noncomputable def v54 : Stmt := by
  refine' (?f : ∀ x, st 54 = x → Stmt) _ ?h
  case h => (conv => lhs; whnf)
  case f => exact fun x _ => x
noncomputable def v55 : Stmt := by
  refine' (?f : ∀ x, st 55 = x → Stmt) _ ?h
  case h => (conv => lhs; whnf)
  case f => exact fun x _ => x
noncomputable def v56 : Stmt := by
  refine' (?f : ∀ x, st 56 = x → Stmt) _ ?h
  case h => (conv => lhs; whnf)
  case f => exact fun x _ => x
noncomputable def v57 : Stmt := by
  refine' (?f : ∀ x, st 57 = x → Stmt) _ ?h
  case h => (conv => lhs; whnf)
  case f => exact fun x _ => x
noncomputable def v58 : Stmt := by
  refine' (?f : ∀ x, st 58 = x → Stmt) _ ?h
  case h => (conv => lhs; whnf)
  case f => exact fun x _ => x
noncomputable def view0 : Program := { PySem.Challenge.pw_pb0246_01 with main := { PySem.Challenge.pw_pb0246_01.main with body := [v1, v2, v3, v4, v6, v8, v9, v10, v11, v13, v14, v15, v16, v18, v19, v20, v21, v22, v23, v25, v26, v27, v28, v29, v31, v32, v33, v34, v35, v36, v37, v38, v39, v40, v41, v42, v43, v44, v45, v46, v47, v48, v49, v50, v52, v54, v55, v56, v57, v58] } }
noncomputable def view_39 : Program := by
  refine' (?f : ∀ x, view0 = x → Program) _ ?h
  case h => (conv => lhs; delta view0 v1 v2 v3 v4 v6 v8 v9 v10 v11 v13 v14 v15 v16 v18 v19 v20 v21 v22 v23 v25 v26 v27 v28 v29 v31 v32 v33 v34 v35 v36 v37 v38 v39 v40 v41 v42 v43 v44 v45 v46 v47 v48 v49 v50 v52 v54 v55 v56 v57 v58)
  case f => exact fun x _ => x
noncomputable def env : Env := { scope := PySem.Challenge.pw_pb0246_01.main.scope, locals := mainNs, globals := mainNs, cells := [], code := .ref 13, frame := some 14 }
noncomputable abbrev as : List Addr := [2, 3, 22, 24, 25, 27, 28, 29, 31, 32, 34, 35, 36, 37, 38, 39, 40, 43, 45, 46, 48, 49, 50, 53, 54, 55, 58, 59, 60, 67, 68, 69, 71, 72, 74, 75, 76, 78, 79, 81, 82, 83, 84, 85, 86, 89, 96, 97, 98, 101, 108, 109, 110, 113, 120, 121, 122, 125, 127, 128, 130, 131, 132, 133, 135, 136, 138, 139, 140, 142, 143, 145, 146, 147, 149, 150, 152, 153, 154, 156, 157, 159, 160, 161, 163, 164, 166, 167, 168, 170, 171, 173, 174, 175, 177, 178, 180, 181, 182, 183, 185, 186, 188, 189, 190, 192, 193, 195, 196, 197, 199, 200, 202, 203, 204, 206, 207, 209, 210, 211, 213, 214, 216, 217, 218, 220, 221, 223, 224, 232, 234, 235, 237, 238, 239, 240, 241, 242, 243, 253, 255, 256, 258, 259, 260, 262, 263, 265, 266, 267, 268, 269, 270, 271, 274, 276, 277, 279, 280, 281, 283, 284, 286, 287, 288, 290, 291, 293, 294, 295, 297, 298, 300, 301, 302, 304, 305, 307, 308, 309, 311, 312, 314, 315, 316, 318, 319, 321, 322, 323, 325, 326, 328, 329, 330, 332, 333, 335, 336, 337, 339, 340, 342, 343, 344, 346, 347, 349, 350, 351, 353, 354, 356, 357, 358, 360, 361, 363, 364, 365, 367, 368, 370, 371, 372, 374, 375, 377, 378, 379, 381, 382, 384, 385, 393, 395, 396, 398, 399, 400, 401, 402, 403, 404, 407, 409, 410, 412, 413, 414, 417, 418, 419, 421, 422, 424, 425, 426, 428, 429, 431, 432, 433, 436, 437]
noncomputable abbrev L0 : List Stmt := behindTheImports PySem.Challenge.pw_pb0246_01
noncomputable abbrev p0 : Pos := ⟨0, 0, 0, 0⟩
noncomputable abbrev cd : Code := .body (behindTheImports PySem.Challenge.pw_pb0246_01) env
theorem pre : ∀ w : World, (fun os => topGo treeTable PySem.Challenge.pw_pb0246_01 w 11 (some (.ref 6)) 12 ⟨boot_heap w.params, ⟨[]⟩, boot_drawn, boot_toks, os⟩ (topStub PySem.Challenge.pw_pb0246_01)) =
    fun os => some (⟨heap_46 w.params, ⟨[]⟩, {}, 187, os⟩, ⟨denote treeTable cd, cd, p0, [topFrame p0]⟩) := by
  rw [PySem.W.Fast.te15667345088766844465, PySem.W.Fast.te14364793385576792824, PySem.W.Fast.te11892475500146522536]
  intro w
  kernel_rfl
theorem block : ∀ w : World, (fun os => segRun treeTable PySem.Challenge.pw_pb0246_01 w 11 (some (.ref 6)) 1 1 ⟨heap_46 w.params, ⟨[]⟩, {}, 187, os⟩ (blockOf (behindTheImports PySem.Challenge.pw_pb0246_01) env cd p0 [topFrame p0])) =
    fun os => some (Flow.next, SharedT.abs ⟨tree_47 w.params, 15, {}, ⟨[]⟩, {}, 187, os⟩, cd, p0) := by
  rw [PySem.W.Fast.te14374325043358763698, PySem.W.Fast.te14364793385576792824]
  intro w
  kernel_rfl
theorem r1 : ∀ w : World, (fun os => segRunT treeTable PySem.Challenge.pw_pb0246_01 w 11 (some (.ref 6)) 1 1791 ⟨tree_47 w.params, 15, {}, ⟨[]⟩, {}, 187, os⟩ (piecesOf (L0.take 33) env cd p0 [topFrame p0])) =
    fun os => some (Flow.next, ⟨tree_274 w.params, 225, {}, ⟨[]⟩, {}, 479, os⟩, cd, ⟨120, 0, 120, 8⟩) := by
  rw [PySem.W.Fast.te10110043849684766642, PySem.W.Fast.te14364793385576792824]
  intro w
  kernel_rfl
theorem r2 : ∀ w : World, (fun os => segRunT treeTable PySem.Challenge.pw_pb0246_01 w 11 (some (.ref 6)) 1 1382 ⟨tree_274 w.params, 225, {}, ⟨[]⟩, {}, 479, os⟩ (piecesOf (L0.drop 33) env cd ⟨120, 0, 120, 8⟩ [topFrame p0])) =
    fun os => some (Flow.next, ⟨tree_495 w.params, 438, {}, ⟨[]⟩, {}, 782, os⟩, cd, ⟨260, 0, 285, 88⟩) := by
  rw [PySem.W.Fast.te10110043849684766642, PySem.W.Fast.te14364793385576792824]
  intro w
  kernel_rfl
theorem fin : ∀ w : World, (fun os => topRun treeTable PySem.Challenge.pw_pb0246_01 w 11 (some (.ref 6)) 2 (SharedT.abs ⟨tree_495 w.params, 438, {}, ⟨[]⟩, {}, 782, os⟩) ⟨doneF .next, cd, ⟨260, 0, 285, 88⟩, [topFrame p0]⟩) =
    fun os => some ⟨heap_496 w.params, ⟨[]⟩, {}, 782, os⟩ := by
  intro w
  kernel_rfl
noncomputable abbrev lo : List Str := [Str.ofString "LedgerError", Str.ofString "decimal", Str.ofString "quotient"]
noncomputable abbrev sF (w : World) (os : OsState) : Shared := ⟨heap_496 w.params, ⟨[]⟩, {}, 782, os⟩
noncomputable abbrev Xt (s : Shared) : Bool := xlAt view_39 [] s && recOk PySem.Challenge.rw_pb0246_01.row.records s
theorem k0 : ∀ w : World, (fun os => (staticsOk (importedModules PySem.Challenge.pw_pb0246_01.main.body) (boot_heap w.params) (heap_496 w.params) && namesBound PySem.Challenge.pw_pb0246_01 (heap_496 w.params) && gensDone (sF w os) && laidKept (boot_heap w.params) (heap_496 w.params))) = fun _ => true := by
  rw [PySem.W.Fast.te5923862056798008813]
  intro w
  kernel_rfl
theorem k1 : ∀ w : World, (fun os => seen ((recsOf view_39).map (·.name)) (ownsOf view_39) [] { sF w os with gens := #[] }) = fun _ => expectedOf view_39 := by
  rw [PySem.W.Fast.te5160383126252970620, PySem.W.Fast.te3399658132070893891, PySem.W.Fast.te5991557255702980513]
  intro w
  kernel_rfl
theorem k2 : ∀ w : World, (fun os => (sF w os).heap.bltView) = fun _ => bltViewBooted := by
  intro w
  kernel_rfl
theorem k3 : ∀ w : World, (fun os => ((sF w os).heap.keysOk (looseW view_39 lo) ((recsOf view_39).map (·.name)) ((litsOf view_39).map (·.1)) ((clssOf view_39 (looseW view_39 lo)).map (·.name)) && (sF w os).heap.accountedOkI (importedModules PySem.Challenge.pw_pb0246_01.main.body) && (sF w os).heap.isNs mainGlobals && (sF w os).heap.isNs builtinsNs && tablesOk view_39 (sF w os).heap && Xt (sF w os) && (if true then (sF w os).gens.size == 0 else !leftWithCleanup (sF w os).gens))) = fun _ => true := by
  rw [PySem.W.Fast.te10880121769531294198, PySem.W.Fast.te821141287760084731, PySem.W.Fast.te3399658132070893891, PySem.W.Fast.te7409074990110511671, PySem.W.Fast.te13664370479719496447, PySem.W.Fast.te14722251495701143533, PySem.W.Fast.te5923862056798008813, PySem.W.Fast.te10994771534591457954]
  intro w
  kernel_rfl
theorem k4 : ∀ w : World, (fun os => tabsOk view_39 (sF w os)) = fun _ => true := by
  rw [PySem.W.Fast.te479339242167458305]
  intro w
  kernel_rfl
theorem k5 : ∀ w : World, (fun os => pinSeenD view_39 (drecsOf view_39) (sF w os)) = fun _ => pinGoodD (drecsOf view_39) := by
  rw [PySem.W.Fast.te16090120013241838585, PySem.W.Fast.te3247288618530077131]
  intro w
  kernel_rfl
theorem k6 : ∀ w : World, (fun os => plainSeenE view_39 (looseW view_39 lo) (sF w os)) = fun _ => plainGoodE view_39 (looseW view_39 lo) := by
  rw [PySem.W.Fast.te2386780881361962483, PySem.W.Fast.te821141287760084731]
  intro w
  kernel_rfl
theorem k7 : ∀ w : World, (fun os => plainSeenD view_39 lo (sF w os)) = fun _ => plainGoodD view_39 lo := by
  rw [PySem.W.Fast.te11698064438423848299]
  intro w
  kernel_rfl
theorem k8 : ∀ w : World, (fun os => wideSeen view_39 (sF w os)) = fun _ => wideGood view_39 := by
  rw [PySem.W.Fast.te7317090234206586261]
  intro w
  kernel_rfl
theorem k9 : ∀ w : World, (fun os => clsSeenW view_39 lo (sF w os)) = fun _ => clsGoodW view_39 lo := by
  rw [PySem.W.Fast.te7369524293546568484]
  intro w
  kernel_rfl
theorem asK : ∀ P, as = (heap_39 P).map (·.1) := fun _ => by kernel_rfl
noncomputable abbrev H : Hook := kmHook heap_39 as asK [420, 56]
theorem k10 : ∀ w : World, (fun os => H.obs (sF w os)) = fun _ => H.val w := by
  intro w
  kernel_rfl
theorem size : ∀ w : World, ((boot_heap w.params).isNs mainGlobals && (Array.mk [] : Array GenState).size == 0, (boot_heap w.params).objs.size, (boot_heap w.params).nsMap mainGlobals "__annotations__") = (true, 11, some (.ref 6)) := by
  intro w
  kernel_rfl
theorem ws : OpenLaw.wellSaid PySem.Challenge.rw_pb0246_01 = true := by
  rw [PySem.W.Fast.te9446332074065402090]
  kernel_rfl
theorem cut (l : List Stmt) : l = l.take 33 ++ (l.drop 33 ++ []) := by
  rw [List.append_nil, List.take_append_drop]
theorem whole (w : World) (os : OsState) : topRun treeTable PySem.Challenge.pw_pb0246_01 w 11 (some (.ref 6)) (12 + (1 + (1791 + (1382 + 2)))) ⟨boot_heap w.params, ⟨[]⟩, boot_drawn, boot_toks, os⟩ (topStub PySem.Challenge.pw_pb0246_01) = some (sF w os) := by
  refine go_top (congrFun (pre w) os) (piece_block (congrFun (block w) os) ?_)
  have e := congrArg (restOf · env cd p0 [topFrame p0]) (cut (behindTheImports PySem.Challenge.pw_pb0246_01))
  refine (congrArg (topRun treeTable PySem.Challenge.pw_pb0246_01 w 11 (some (.ref 6)) _ _) e).trans ?_
  exact piece_app (segRun_of (congrFun (r1 w) os)) (piece_app (segRun_of (congrFun (r2 w) os)) (piece_nil (congrFun (fin w) os)))
theorem op : opening PySem.Challenge.pw_pb0246_01 = plainProg PySem.Challenge.pw_pb0246_01.main.scope.names := by kernel_rfl
theorem looks (w : World) : (fun os => ((staticsOk (importedModules PySem.Challenge.pw_pb0246_01.main.body) (boot_heap w.params) (heap_496 w.params) && namesBound PySem.Challenge.pw_pb0246_01 (heap_496 w.params) && gensDone (sF w os) && laidKept (boot_heap w.params) (heap_496 w.params)),
    openSeen view_39 lo (importedModules PySem.Challenge.pw_pb0246_01.main.body) (fun s => xlAt view_39 [] s && recOk PySem.Challenge.rw_pb0246_01.row.records s) true (sF w os), H.obs (sF w os))) = fun _ => (true, openGood view_39 lo, H.val w) :=
  funext fun os => looks_pair (congrFun (k0 w) os) (looks_pair (looks_pair (congrFun (k1 w) os) (looks_pair (congrFun (k2 w) os) (looks_pair (congrFun (k3 w) os) (looks_pair (congrFun (k4 w) os) (looks_pair (congrFun (k5 w) os)
    (looks_pair (congrFun (k6 w) os) (looks_pair (congrFun (k7 w) os) (looks_pair (congrFun (k8 w) os) (congrFun (k9 w) os))))))))) (congrFun (k10 w) os))
theorem left : LeftO PySem.Challenge.pw_pb0246_01 view_39 lo (fun s => xlAt view_39 [] s && recOk PySem.Challenge.rw_pb0246_01.row.records s) H.obs H.val 6452 true :=
  LeftO.of_pieces (boot_open op (by kernel_rfl) (fun _ => rfl)) size whole (by kernel_rfl) looks
end hd
end Head
open PyProof.Rows.LCg PyProof.Rows.LCt PySem.Calls PySem.Spec
set_option maxRecDepth 100000
set_option maxHeartbeats 8000000
set_option rowWalk.seconds 0
theorem filled : PySem.Challenge.rw_pb0246_01 = PySem.Challenge.rw_pb0246_01 ∧ hd.heap_39 = hd.heap_39 := by
  k_fill
  exact ⟨rfl, rfl⟩
section S_P1
theorem noE {α : Type} {M : Model} {A : Around} {x : Sem α} {Q : α → Shared → Prop} {E : Value → Shared → Prop} {s : Shared} (h : wpAny M A x Q (fun _ _ => False) s) : wpAny M A x Q E s := wpAny_mono h (fun _ _ q => q) fun _ _ q => q.elim
theorem settle {α : Type} {M : Model} {A : Around} {x : Sem α} {Q : α → Shared → Prop} {E : Value → Shared → Prop} {h : Heap} {g g0 : Array GenState} {d d0 : Drawn} {t : Nat} {o o0 : OsState} (eg : g = g0) (ed : d = d0) (eo : o = o0)
    (k : ∀ t', wpAny M A x Q E ⟨h, g0, d0, t', o0⟩) : wpAny M A x Q E ⟨h, g, d, t, o⟩ := by
  subst eg ed eo
  exact k t
theorem lt_add1 {a b c r : Nat} (h : a + b < r) (k : c ≤ b) : a + c < r := Nat.lt_of_le_of_lt (Nat.add_le_add_left k a) h
theorem lt_add2 {a b c i r : Nat} (h : a + b < r) (k : i + c ≤ b) : a + i + c < r := by rw [Nat.add_assoc]; exact lt_add1 h k
theorem lt_add3 {a b c i j r : Nat} (h : a + b < r) (k : i + j + c ≤ b) : a + i + j + c < r := by rw [Nat.add_assoc a i j]; exact lt_add2 h k
theorem lt_add4 {a b c i j l r : Nat} (h : a + b < r) (k : i + j + l + c ≤ b) : a + i + j + l + c < r := by rw [Nat.add_assoc a i j]; exact lt_add3 h k
noncomputable abbrev LL : List Str := looseW hd.view_39 [Str.ofString "LedgerError", Str.ofString "decimal", Str.ofString "quotient"] ++ (recsOf hd.view_39).map (fun x => x.name) ++ (litsOf hd.view_39).map (fun x => x.1) ++ (clssOf hd.view_39 (looseW hd.view_39 [Str.ofString "LedgerError", Str.ofString "decimal", Str.ofString "quotient"])).map (fun x => x.name)
structure Halt (P : Prop) : Prop where
  out : P
/-- the contract of a call of the function at f upon vs, with the ledger news -/
def Calls (w : World) (mean : ExcName → Option Value) (mg mb : Str → Option Value) (dk uk : Nat) (news : List (Addr × Obj)) (f : Addr) (vs : List Value) (Post : Value → List (Addr × Obj) → Prop) : Prop :=
  ∀ (dp un : Nat) (gd : Option (List Code)) (cn : Str) (cs : Scope) (a : Addr) (ccd : Value) (cl : List (Str × Addr)) (outer : List Env) (A₀ : Around) (base h₀ : Heap) (L : Addr) (m : Str → Option Value) (s : Shared) (Q E : Value → Shared → Prop),
    Below A₀ base outer h₀ → Fr h₀ L s.heap m → (hd.heap_39 w.params).In h₀ → News h₀ L s.heap news → Top topProg LL mean mg mb h₀ → cs.kind = .function → dp + dk < recursionLimit → un + uk < cLine →
    (∀ r news' h' tk', Fr h₀ L h' m → News h₀ L h' news' → Post r news' → Q r { s with heap := h', toks := tk' }) →
    wpAny (model PySem.Challenge.rw_pb0246_01.row.prog w) (ktrTop dp un gd cn cs L a ccd cl outer) (call (.ref f) vs) Q E s
theorem news_sub {h₀ : Heap} {L : Addr} {heap : Heap} {news news' : List (Addr × Obj)} (N : News h₀ L heap news) (hs : ∀ p ∈ news', p ∈ news) : News h₀ L heap news' := by
  exact fun p hp => N p (hs p hp)
theorem allLt_mem {d : Addr} {l : List (Addr × Obj)} (h : AllLt d l) : ∀ p ∈ l, p.1 < d := by
  induction l with
  | nil => intro p hp; cases hp
  | cons q r ih =>
    intro p hp
    rcases List.mem_cons.mp hp with e | hp
    · rw [e]; exact h.1
    · exact ih h.2 p hp
theorem allLt_ne {d : Addr} {l : List (Addr × Obj)} (h : AllLt d l) : ∀ p ∈ l, p.1 ≠ d := fun p hp => Nat.ne_of_lt (allLt_mem h p hp)
theorem lt_ne0 {d : Addr} {l : List (Addr × Obj)} (h : ∀ p ∈ l, p.1 < d) : ∀ p ∈ l, p.1 ≠ d := fun p hp => Nat.ne_of_lt (h p hp)
theorem lt_neK {d : Addr} {l : List (Addr × Obj)} {k : Nat} (h : ∀ p ∈ l, p.1 < d) : ∀ p ∈ l, p.1 ≠ d + k := fun p hp => Nat.ne_of_lt (Nat.lt_of_lt_of_le (h p hp) (Nat.le_add_right _ _))
theorem fr_re {h₀ h : Heap} {L : Addr} {m m' : Str → Option Value} (F : Fr h₀ L h m) (e : ∀ y, m y = m' y) : Fr h₀ L h m' := (funext e : m = m') ▸ F
theorem sub_refl {a : List (Addr × Obj)} : ∀ p ∈ a, p ∈ a := fun _ h => h
theorem sub_top {x : Addr × Obj} {a b : List (Addr × Obj)} (h : ∀ p ∈ a, p ∈ b) : ∀ p ∈ x :: a, p ∈ x :: b := by
  intro p hp
  rcases List.mem_cons.mp hp with e | hp
  · rw [e]; exact List.mem_cons_self
  · exact List.mem_cons_of_mem _ (h p hp)
theorem sub_skip {x : Addr × Obj} {a b : List (Addr × Obj)} (h : ∀ p ∈ a, p ∈ b) : ∀ p ∈ a, p ∈ x :: b := fun p hp => List.mem_cons_of_mem _ (h p hp)
theorem Calls.use_s {w : World} {mean : ExcName → Option Value} {mg mb : Str → Option Value} {dk uk : Nat} {news : List (Addr × Obj)} {f : Addr} {vs : List Value} {Post : Value → List (Addr × Obj) → Prop}
    (C : Calls w mean mg mb dk uk news f vs Post)
    {dp un : Nat} {gd : Option (List Code)} {cn : Str} {cs : Scope} {a : Addr} {ccd : Value} {cl : List (Str × Addr)} {outer : List Env} {A₀ : Around} {base h₀ : Heap} {L : Addr} {m : Str → Option Value} {s : Shared} {Q E : Value → Shared → Prop} {news₀ : List (Addr × Obj)}
    (B : Below A₀ base outer h₀) (F : Fr h₀ L s.heap m) (X : (hd.heap_39 w.params).In h₀) (N : News h₀ L s.heap news₀) (hs : ∀ p ∈ news, p ∈ news₀) (T : Top topProg LL mean mg mb h₀) (hk : cs.kind = .function)
    (hd : dp + dk < recursionLimit) (hu : un + uk < cLine)
    (hret : ∀ r news' h' tk', Fr h₀ L h' m → News h₀ L h' news' → Post r news' → Q r { s with heap := h', toks := tk' }) :
    wpAny (model PySem.Challenge.rw_pb0246_01.row.prog w) (ktrTop dp un gd cn cs L a ccd cl outer) (call (.ref f) vs) Q E s :=
  C dp un gd cn cs a ccd cl outer A₀ base h₀ L m s Q E B F X (news_sub N hs) T hk hd hu hret
theorem Calls.use {w : World} {mean : ExcName → Option Value} {mg mb : Str → Option Value} {dk uk : Nat} {news : List (Addr × Obj)} {f : Addr} {vs : List Value} {Post : Value → List (Addr × Obj) → Prop} (C : Calls w mean mg mb dk uk news f vs Post) {dp un : Nat} {gd : Option (List Code)} {cn : Str} {cs : Scope} {a : Addr} {ccd : Value} {cl : List (Str × Addr)} {outer : List Env} {A₀ : Around} {base h₀ : Heap} {L : Addr} {m : Str → Option Value} {hp9 : Heap} {gn9 : Array GenState} {dr9 : Drawn} {tk9 : Nat} {os9 : OsState} {Q E : Value → Shared → Prop} {news₀ : List (Addr × Obj)} (B : Below A₀ base outer h₀) (F : Fr h₀ L hp9 m) (X : (hd.heap_39 w.params).In h₀) (N : News h₀ L hp9 news₀) (hs : ∀ p ∈ news, p ∈ news₀) (T : Top topProg LL mean mg mb h₀) (hk : cs.kind = .function) (hd : dp + dk < recursionLimit) (hu : un + uk < cLine) (hret : ∀ r news' h' tk', Fr h₀ L h' m → News h₀ L h' news' → Post r news' → Q r ⟨h', gn9, dr9, tk', os9⟩) :
    wpAny (model PySem.Challenge.rw_pb0246_01.row.prog w) (ktrTop dp un gd cn cs L a ccd cl outer) (call (.ref f) vs) Q E ⟨hp9, gn9, dr9, tk9, os9⟩ :=
  Calls.use_s (s := ⟨hp9, gn9, dr9, tk9, os9⟩) C B F X N hs T hk hd hu hret
section draw
local macro_rules | `(tactic| k_all) => `(tactic| first | with_reducible assumption | fail "no")
theorem draw_spec {w : World} {mean : ExcName → Option Value} {mg mb : Str → Option Value} {tp ca : Addr} {vs : List Value} {ns : List Int} {n1 n2 : Nat} {i limit : Int} {ti tlim : Tok} {rest : List (Addr × Obj)}
    (hi : IntsAre vs ns) (h1 : 0 < ns.length) (h2 : ns.length ≤ 60) (hi0 : 0 ≤ i) (hi1 : i < 1000) (hl0 : 0 < limit) (hl1 : limit ≤ 11) (hne : @Ne Nat tp ca) (hr1 : ∀ p ∈ rest, p.1 ≠ tp) (hr2 : ∀ p ∈ rest, p.1 ≠ ca) :
    Calls w mean mg mb 10 100 ((tp, listOf #[.ref ca, .int i ti] n1) :: (ca, listOf vs.toArray n2) :: rest) 413 [.ref tp, .int limit tlim]
      (fun r news' => ∃ x t ti' vs' ns', r = .int x t ∧ 0 ≤ x ∧ x < limit ∧ IntsAre vs' ns' ∧ ns'.length = ns.length ∧ news' = (tp, listOf #[.ref ca, .int (i+1) ti'] n1) :: (ca, listOf vs'.toArray n2) :: rest) := by
  intro dp un gd cn cs a ccd cl outer A₀ base h₀ L m s Q E B F X N T hk hd hu hret
  refine wpAny_call ?_
  k_dflt cell_enter
  k_steps
  all_goals (refine hret _ _ _ _ (by assumption) (by assumption) ⟨_, _, _, _, _, rfl, ?_, ?_, by assumption, by simp only [List.length_set], rfl⟩)
  all_goals (rw [Int.fmod_eq_emod_of_nonneg _ (by omega)]; first | exact Int.emod_nonneg _ (by omega) | exact Int.emod_lt_of_pos _ (by omega))
end draw
end S_P1
local macro_rules | `(tactic| walk_at "N.pr") => `(tactic| first | with_reducible assumption | exact And.left (by with_reducible assumption) | exact And.left (And.right (by with_reducible assumption)) | exact And.left (And.right (And.right (by with_reducible assumption))) | exact And.left (And.right (And.right (And.right (by with_reducible assumption)))) | exact And.left (And.right (And.right (And.right (And.right (by with_reducible assumption))))) | exact And.left (And.right (And.right (And.right (And.right (And.right (by with_reducible assumption)))))) | exact And.left (And.right (And.right (And.right (And.right (And.right (And.right (by with_reducible assumption))))))) | exact And.left (And.right (And.right (And.right (And.right (And.right (And.right (And.right (by with_reducible assumption)))))))) | exact And.left (And.right (And.right (And.right (And.right (And.right (And.right (And.right (And.right (by with_reducible assumption))))))))) | exact And.left (And.right (And.right (And.right (And.right (And.right (And.right (And.right (And.right (And.right (by with_reducible assumption)))))))))) | exact And.left (And.right (And.right (And.right (And.right (And.right (And.right (And.right (And.right (And.right (And.right (by with_reducible assumption))))))))))))
local macro_rules | `(tactic| walk_at "N.lt") => `(tactic| first | walk_at "N.pr" | exact Nat.lt_succ_of_lt (by walk_at "N.pr") | (refine Nat.lt_trans ?_ (by with_reducible assumption); walk_at "N.pr"))
local macro_rules | `(tactic| walk_at "N.ne") => `(tactic| first | exact Nat.ne_of_gt (by walk_at "N.lt") | exact Nat.ne_of_lt (by walk_at "N.lt"))
local macro_rules | `(tactic| walk_at "N.add") => `(tactic| first | with_reducible assumption | exact lt_add1 (by assumption) (Nat.le_of_ble_eq_true rfl) | exact lt_add2 (by assumption) (Nat.le_of_ble_eq_true rfl) | exact lt_add3 (by assumption) (Nat.le_of_ble_eq_true rfl) | exact lt_add4 (by assumption) (Nat.le_of_ble_eq_true rfl))
local macro_rules | `(tactic| walk_at "om") => `(tactic| first | walk_at "N.ne" | walk_at "N.lt" | exact Nat.le_of_lt (by walk_at "N.lt") | exact Nat.le_trans (by with_reducible assumption) (Nat.le_of_ble_eq_true rfl) | exact Nat.lt_of_le_of_lt (by with_reducible assumption) (Nat.le_of_ble_eq_true rfl) | walk_at "N.add" | (refine And.intro ?_ ?_ <;> walk_at "om") | omega)
local macro_rules | `(tactic| ktr_room) => `(tactic| ((try dsimp only [depth_in1, depth_deeper, depth_caller, ktrTop]); walk_at "N.add"))
local macro_rules | `(tactic| ktr_units) => `(tactic| ((try dsimp only [units_in1, units_deeper, Around.mark_units, units_caller, ktrTop]); walk_at "N.add"))
local macro_rules | `(tactic| k_ne) => `(tactic| walk_at "N.ne")
section S_C1
theorem compEnd_mono {h₀ : Heap} {L : Addr} {m : Str → Option Value} {s₁ : Shared} {I : Addr} {oI : Obj} {C : Addr} {oC : Obj} {D : Addr} {oD : Obj} {S : List (Addr × Obj) → Prop} {r r' : Value → List (Addr × Obj) → Prop} {y : Value} {s₂ : Shared}
    (h : CompEnd h₀ L m s₁ I oI C oC D oD S r y s₂) (hr : ∀ y news, r y news → r' y news) : CompEnd h₀ L m s₁ I oI C oC D oD S r' y s₂ := by
  obtain ⟨h', tk, news', e, F, N, off, hS, hy⟩ := h
  exact ⟨h', tk, news', e, F, N, off, hS, hr _ _ hy⟩
section
variable {prog : Program} {w : World} {A : Around} {s : Shared} {h₀ : Heap} {L : Addr} {m : Str → Option Value} {env : Env}
theorem rest_inv {elt : Expr} {x : Str} {scope : Scope} {cl : List (Str × Addr)} {S : List (Addr × Obj) → Prop} {P : Nat → Value → Prop} {Fin : List Value → List (Addr × Obj) → Prop}
    (n : Nat) (J : Nat → List Value → List (Addr × Obj) → Prop)
    (turn : ∀ i ys news, i < n → J i ys news → ∀ v I oI C oC D m₂ h tk (E' : Value → Shared → Prop), P i v → NsObj oC m₂ → m₂ x = some v → Fr h₀ L h m → News h₀ L h ((I, oI) :: (C, oC) :: (D, lst ys) :: news) → Off3 I C D news → ((@Ne Nat I C) ∧ (@Ne Nat I D) ∧ (@Ne Nat C D)) →
      wpAny (model prog w) A (eval elt (compEnvC scope cl C env)) (CompEnd h₀ L m { s with heap := h, toks := tk } I oI C oC D (lst ys) S (fun y news' => J (i + 1) (ys ++ [y]) news')) E' { s with heap := h, toks := tk })
    (fin : ∀ ys news, J n ys news → Fin ys news) :
    ∀ k i ys news, i + k = n → J i ys news → CompRest prog w A h₀ L m env elt x scope cl s S P Fin k i ys news := by
  intro k
  induction k with
  | zero => intro i ys news hi hJ; obtain rfl : i = n := by omega
            exact .zero (fin _ _ hJ)
  | succ k ih =>
    intro i ys news hi hJ
    refine .succ fun v I oI C oC D m₂ h tk E' hP hns hx F N off ne => ?_
    exact wpAny_mono (turn i ys news (by omega) hJ v I oI C oC D m₂ h tk E' hP hns hx F N off ne) (fun y s' hE => compEnd_mono hE fun y news' hJ' => ih (i + 1) _ _ (by omega) hJ') (fun _ _ e => e)
theorem restT_inv {ct elt : Expr} {x : Str} {scope : Scope} {cl : List (Str × Addr)} {S : List (Addr × Obj) → Prop} {P : Nat → Value → Prop} {Fin : List Value → List (Addr × Obj) → Prop}
    (n : Nat) (J : Nat → List Value → List (Addr × Obj) → Prop)
    (turn : ∀ i ys news, i < n → J i ys news → ∀ v I oI C oC D m₂ h tk (E' : Value → Shared → Prop), P i v → NsObj oC m₂ → m₂ x = some v → Fr h₀ L h m → News h₀ L h ((I, oI) :: (C, oC) :: (D, lst ys) :: news) → Off3 I C D news → ((@Ne Nat I C) ∧ (@Ne Nat I D) ∧ (@Ne Nat C D)) →
      wpAny (model prog w) A (isTrue ct (compEnvC scope cl C env) (eval ct (compEnvC scope cl C env))) (fun ok s' => if ok = true then
        wpAny (model prog w) A (eval elt (compEnvC scope cl C env)) (CompEnd h₀ L m { s with heap := h, toks := tk } I oI C oC D (lst ys) S (fun y news' => J (i + 1) (ys ++ [y]) news')) E' s'
        else CompEnd h₀ L m { s with heap := h, toks := tk } I oI C oC D (lst ys) S (fun _ news' => J (i + 1) ys news') Value.none s') E' { s with heap := h, toks := tk })
    (fin : ∀ ys news, J n ys news → Fin ys news) :
    ∀ k i ys news, i + k = n → J i ys news → CompRestT prog w A h₀ L m env ct elt x scope cl s S P Fin k i ys news := by
  intro k
  induction k with
  | zero => intro i ys news hi hJ; obtain rfl : i = n := by omega
            exact .zero (fin _ _ hJ)
  | succ k ih =>
    intro i ys news hi hJ
    refine .succ fun v I oI C oC D m₂ h tk E' hP hns hx F N off ne => ?_
    refine wpAny_mono (turn i ys news (by omega) hJ v I oI C oC D m₂ h tk E' hP hns hx F N off ne) (fun ok s' hE => ?_) (fun _ _ e => e)
    cases ok with
    | true =>
      rw [if_pos rfl] at hE ⊢
      exact wpAny_mono hE (fun y s' hE => compEnd_mono hE fun y news' hJ' => ih (i + 1) _ _ (by omega) hJ') (fun _ _ e => e)
    | false =>
      rw [if_neg (by decide)] at hE ⊢
      exact compEnd_mono hE fun y news' hJ' => ih (i + 1) _ _ (by omega) hJ'
/-- a list comprehension over a tuple of the ledger -/
theorem comp_tup_s {E : Value → Shared → Prop} {elt iter : Expr} {x : Str} {px : Pos} {scope : Scope} {cl : List (Str × Addr)} {pos : Pos} {Q : Value → Shared → Prop} {ax : Addr} {its : Array Value} {tn : Nat} {news : List (Addr × Obj)}
    (_F : Fr h₀ L s.heap m) (_N : News h₀ L s.heap news) (_hm : (ax, ({ cls := .type "tuple", data := .seq its tn } : Obj)) ∈ news)
    (hclos : closureFor scope env = pure cl) (hcell : ∀ y ∈ scope.names, y.2 ≠ .cell) (hkind : scope.kind = .function)
    (hnames : ∀ y ∈ scope.names, y.2 = .local → scope.names.lookup y.1 = some .local) (hx : scope.names.lookup x = some .local)
    (hh : A.handled = none) (hsz : its.size ≤ sizeLine)
    (h : wpAny (model prog w) A (eval iter env) (fun xv s₁ => Halt (xv = .ref ax ∧ Fr h₀ L s₁.heap m ∧ News h₀ L s₁.heap news ∧ (ax, ({ cls := .type "tuple", data := .seq its tn } : Obj)) ∈ news ∧
      ∀ g, CompRest prog w A h₀ L m env elt x scope cl { s₁ with heap := g } (fun nw => (ax, ({ cls := .type "tuple", data := .seq its tn } : Obj)) ∈ nw) (fun i v => its[i]? = some v) (FinE h₀ L m { s₁ with heap := g } Q) its.size 0 [] news)) E s)
    (hs : ∀ x, foldedSetIterable iter env x = pure x := by intro _; rfl) :
    wpAny (model prog w) A (eval (.ListComp elt [⟨.Name x px, iter, [], 0⟩] scope pos) env) Q E s := by
  rw [eval_ListComp]
  refine wpAny_comprehension_free (use := none) rfl hs hclos hkind hnames (wpAny_mono h (fun xv s₁ h₁ => ?_) fun _ _ e => e)
  obtain ⟨⟨rfl, F, N, hm, R⟩⟩ := h₁
  have hl : s₁.heap.IsTuple ax its := ⟨_, (N _ hm).1, rfl, _, rfl⟩
  have hlt : ax < s₁.heap.objs.size := by obtain ⟨_, e, _⟩ := hl; exact Heap.lt_size e
  refine wpAny_pyIter_tuple hl ?_
  have up : ∀ b o, s₁.heap.get? b = some o → (s₁.heap.push { cls := .type "tuple_iterator", data := .fields #[.ref ax, .int 0 0] }).get? b = some o := fun b o e => Heap.get?_push_of_some _ e
  refine block_U (S := fun nw => (ax, ({ cls := .type "tuple", data := .seq its tn } : Obj)) ∈ nw) (Walks.tuple hh s₁.heap.objs.size ax (Nat.ne_of_lt hlt) its) hsz (fun i h st => by obtain ⟨o, e, _⟩ := st.1; exact ⟨o, e⟩) ?_ hcell hkind hx ⟨⟨_, Heap.get?_push_size _ rfl, rfl, rfl⟩, ⟨_, up _ _ (N _ hm).1, rfl, _, rfl⟩⟩ (fun b hb => ?_)
      (F.keeps up) (N.grown up) (Nat.ne_of_lt F.ns.lt) (next_is_new F) (fun p hp => Nat.ne_of_lt (Heap.lt_size (N p hp).1)) hm (R _) ?_
  · intro i h h' o nw st e e' _ N' S
    exact ⟨by obtain ⟨o', q, r⟩ := st.1; rw [e] at q; cases q; exact ⟨o, e', r⟩, ⟨_, (N' _ S).1, rfl, _, rfl⟩⟩
  · show b < (s₁.heap.push _).objs.size
    rw [Heap.size_push]
    rcases List.mem_cons.mp hb with rfl | hb
    · exact Nat.lt_succ_self _
    · rw [List.mem_singleton.mp hb]; exact Nat.lt_succ_of_lt hlt
  · intro D C h tk m' ys news' F' N' o1 hn hC₀ hD₀ hCL hDL hCD offC fin
    refine ⟨m', hn, fun h'' hs'' => fin D h'' tk (F'.change hs'' hCL hC₀) (fun p hp => ?_) o1⟩
    refine ⟨hs''.extBut _ _ ?_ (N' p hp).1, (N' p hp).2⟩
    rcases List.mem_cons.mp hp with rfl | hp
    · exact Ne.symm hCD
    · exact offC p hp
theorem comp_tup {hp9 : Heap} {gn9 : Array GenState} {dr9 : Drawn} {tk9 : Nat} {os9 : OsState} {E : Value → Shared → Prop} {elt iter : Expr} {x : Str} {px : Pos} {scope : Scope} {cl : List (Str × Addr)} {pos : Pos} {Q : Value → Shared → Prop} {ax : Addr} {its : Array Value} {tn : Nat} {news : List (Addr × Obj)} (_F : Fr h₀ L hp9 m) (_N : News h₀ L hp9 news) (_hm : (ax, ({ cls := .type "tuple", data := .seq its tn } : Obj)) ∈ news) (hclos : closureFor scope env = pure cl) (hcell : ∀ y ∈ scope.names, y.2 ≠ .cell) (hkind : scope.kind = .function) (hnames : ∀ y ∈ scope.names, y.2 = .local → scope.names.lookup y.1 = some .local) (hx : scope.names.lookup x = some .local) (hh : A.handled = none) (hsz : its.size ≤ sizeLine) (h : wpAny (model prog w) A (eval iter env) (fun xv s₁ => Halt (xv = .ref ax ∧ Fr h₀ L s₁.heap m ∧ News h₀ L s₁.heap news ∧ (ax, ({ cls := .type "tuple", data := .seq its tn } : Obj)) ∈ news ∧
      ∀ g, CompRest prog w A h₀ L m env elt x scope cl { s₁ with heap := g } (fun nw => (ax, ({ cls := .type "tuple", data := .seq its tn } : Obj)) ∈ nw) (fun i v => its[i]? = some v) (FinE h₀ L m { s₁ with heap := g } Q) its.size 0 [] news)) E ⟨hp9, gn9, dr9, tk9, os9⟩) (hs : ∀ x, foldedSetIterable iter env x = pure x := by intro _; rfl) :
    wpAny (model prog w) A (eval (.ListComp elt [⟨.Name x px, iter, [], 0⟩] scope pos) env) Q E ⟨hp9, gn9, dr9, tk9, os9⟩ :=
  comp_tup_s (s := ⟨hp9, gn9, dr9, tk9, os9⟩) _F _N _hm hclos hcell hkind hnames hx hh hsz h hs
end
end S_C1
section S_L1
noncomputable def Fresh (add news : List (Addr × Obj)) : Prop := ∀ p ∈ add, ∀ q ∈ news, @Ne Nat q.1 p.1
/-- where a turn of a loop ends: the state c', new things add ahead of the tail -/
noncomputable def TEnd {σ : Type} (h₀ : Heap) (L : Addr) (x : Str) (mm : σ → Str → Option Value) (hdl tl : σ → List (Addr × Obj)) (St : σ → Prop) (c : σ) (rest : List (Addr × Obj)) (s₁ s₂ : Shared) : Prop :=
  ∃ h' tk m' c' add, s₂ = { s₁ with heap := h', toks := tk } ∧ Fr h₀ L h' m' ∧ News h₀ L h' (hdl c' ++ (add ++ rest)) ∧ tl c' = add ++ tl c ∧ Fresh add (hdl c ++ rest) ∧ (∀ y, y ≠ x → m' y = mm c' y) ∧ St c'
noncomputable def TPost {σ : Type} (h₀ : Heap) (L : Addr) (x : Str) (mm : σ → Str → Option Value) (hdl tl : σ → List (Addr × Obj)) (St : σ → Prop) (c : σ) (rest : List (Addr × Obj)) (Q : Flow → Shared → Prop) (s₁ : Shared) (f : Flow) (s₂ : Shared) : Prop :=
  match f with
  | .ret v => Q (.ret v) s₂
  | .brk => Q .next s₂
  | _ => TEnd h₀ L x mm hdl tl St c rest s₁ s₂
section
variable {prog : Program} {w : World} {A : Around} {E : Value → Shared → Prop} {s : Shared} {env : Env} {h₀ : Heap} {x : Str} {body : List Stmt} {Q : Flow → Shared → Prop}
theorem TPost.fin {σ : Type} {L : Addr} {mm : σ → Str → Option Value} {hdl tl : σ → List (Addr × Obj)} {St : σ → Prop} {c : σ} {rest news' : List (Addr × Obj)} {s₁ : Shared} {h' : Heap} {tk : Nat} {m' : Str → Option Value} (c' : σ) (add : List (Addr × Obj))
    (F : Fr h₀ L h' m') (N : News h₀ L h' news') (sub : ∀ p ∈ hdl c' ++ (add ++ rest), p ∈ news') (ht : tl c' = add ++ tl c) (hf : Fresh add (hdl c ++ rest)) (hm : ∀ y, y ≠ x → m' y = mm c' y) (hs : St c') :
    TPost h₀ L x mm hdl tl St c rest Q s₁ .next { s₁ with heap := h', toks := tk } := ⟨h', tk, m', c', add, rfl, F, fun p hp => N p (sub p hp), ht, hf, hm, hs⟩
theorem TPost.cont {σ : Type} {L : Addr} {mm : σ → Str → Option Value} {hdl tl : σ → List (Addr × Obj)} {St : σ → Prop} {c : σ} {rest news' : List (Addr × Obj)} {s₁ : Shared} {h' : Heap} {tk : Nat} {m' : Str → Option Value} (c' : σ) (add : List (Addr × Obj))
    (F : Fr h₀ L h' m') (N : News h₀ L h' news') (sub : ∀ p ∈ hdl c' ++ (add ++ rest), p ∈ news') (ht : tl c' = add ++ tl c) (hf : Fresh add (hdl c ++ rest)) (hm : ∀ y, y ≠ x → m' y = mm c' y) (hs : St c') :
    TPost h₀ L x mm hdl tl St c rest Q s₁ .cont { s₁ with heap := h', toks := tk } := ⟨h', tk, m', c', add, rfl, F, fun p hp => N p (sub p hp), ht, hf, hm, hs⟩
noncomputable def LJ {σ : Type} (x : Str) (mm : σ → Str → Option Value) (hdl tl : σ → List (Addr × Obj)) (adr : List Addr) (t₀ : List (Addr × Obj)) (St : Nat → σ → Prop) (i : Nat) (m : Str → Option Value) (nx : List (Addr × Obj)) : Prop :=
  ∃ c, nx = hdl c ++ tl c ∧ (∀ y, y ≠ x → m y = mm c y) ∧ St i c ∧ (∀ p ∈ t₀, p ∈ tl c) ∧ (∀ p ∈ tl c, ∀ a ∈ adr, p.1 ≠ a)
theorem tpost_inv {σ : Type} {L : Addr} {mm : σ → Str → Option Value} {hdl tl : σ → List (Addr × Obj)} {adr : List Addr} {t₀ own : List (Addr × Obj)} {St : Nat → σ → Prop} {i : Nat} {c : σ} {s₁ s₂ : Shared} {f : Flow} (hadr : ∀ c, (hdl c).map (·.1) = adr)
    (ho : OwnOff own ((hdl c ++ tl c).map (·.1))) (ht : ∀ p ∈ t₀, p ∈ tl c) (hoff : ∀ p ∈ tl c, ∀ a ∈ adr, p.1 ≠ a) (J : (Str → Option Value) → List (Addr × Obj) → Prop) (hJ : ∀ m nx, (∀ p ∈ t₀, p ∈ nx) → LJ x mm hdl tl adr t₀ St i m nx → J m nx)
    (h : TPost h₀ L x mm hdl tl (St i) c (tl c ++ own) Q s₁ f s₂) : InvPostG h₀ L J own s₁ Q f s₂ := by
  have fin : TEnd h₀ L x mm hdl tl (St i) c (tl c ++ own) s₁ s₂ → InvEndG h₀ L J own s₁ s₂ := by
    rintro ⟨h', tk, m', c', add, e, F, N, et, hf, hm, hs⟩
    have hadd : ∀ p ∈ add, ∀ a ∈ adr, p.1 ≠ a := by
      intro p hp a ha
      rw [← hadr c] at ha
      obtain ⟨q, hq, rfl⟩ := List.mem_map.mp ha
      exact Ne.symm (hf p hp q (List.mem_append.mpr (.inl hq)))
    refine ⟨h', tk, m', _, hdl c' ++ tl c', e, F, N, ?_, ?_, ?_, hJ _ _ ?_ ⟨c', rfl, hm, hs, ?_, ?_⟩⟩
    · intro p hp
      rw [et] at hp
      rcases List.mem_append.mp hp with hp | hp
      · exact List.mem_append.mpr (.inl hp)
      · rcases List.mem_append.mp hp with hp | hp
        · exact List.mem_append.mpr (.inr (List.mem_append.mpr (.inl hp)))
        · exact List.mem_append.mpr (.inr (List.mem_append.mpr (.inr (List.mem_append.mpr (.inl hp)))))
    · exact fun p hp => List.mem_append.mpr (.inr (List.mem_append.mpr (.inr (List.mem_append.mpr (.inr hp)))))
    · intro p hp b hb
      rw [List.map_append, et] at hb
      rcases List.mem_append.mp hb with hb | hb
      · rw [hadr, ← hadr c] at hb
        exact ho p hp b (by rw [List.map_append]; exact List.mem_append.mpr (.inl hb))
      · rw [List.map_append] at hb
        rcases List.mem_append.mp hb with hb | hb
        · obtain ⟨q, hq, rfl⟩ := List.mem_map.mp hb
          exact (hf q hq p (List.mem_append.mpr (.inr (List.mem_append.mpr (.inr hp)))))
        · exact ho p hp b (by rw [List.map_append]; exact List.mem_append.mpr (.inr hb))
    · intro p hp; rw [et]; exact List.mem_append.mpr (.inr (List.mem_append.mpr (.inr (ht p hp))))
    · intro p hp; rw [et]; exact List.mem_append.mpr (.inr (ht p hp))
    · intro p hp
      rw [et] at hp
      rcases List.mem_append.mp hp with hp | hp
      · exact hadd p hp
      · exact hoff p hp
  cases f with
  | ret v => exact h
  | brk => exact h
  | next => exact fin h
  | cont => exact fin h
theorem rest_off {σ : Type} {hdl tl : σ → List (Addr × Obj)} {adr : List Addr} {own : List (Addr × Obj)} {c : σ} (hadr : ∀ c, (hdl c).map (·.1) = adr)
    (ho : OwnOff own ((hdl c ++ tl c).map (·.1))) (hoff : ∀ p ∈ tl c, ∀ a ∈ adr, p.1 ≠ a) : ∀ p ∈ tl c ++ own, ∀ a ∈ adr, p.1 ≠ a := by
  intro p hp a ha
  rcases List.mem_append.mp hp with hp | hp
  · exact hoff p hp a ha
  · rw [← hadr c] at ha
    exact ho p hp a (by rw [List.map_append]; exact List.mem_append.mpr (.inl ha))
theorem for_led_s {σ : Type} {l : Addr} {vs : List Value} {nn : Nat} {m₀ : Str → Option Value} {news : List (Addr × Obj)} (mm : (Str → Option Value) → σ → Str → Option Value) (hdl tl : σ → List (Addr × Obj)) (adr : List Addr) (St : Nat → σ → Prop) (c₀ : σ)
    (hh : A.handled = none) (F : Fr h₀ env.locals s.heap m₀) (N : News h₀ env.locals s.heap news) (hl : (l, listOf vs.toArray nn) ∈ tl c₀) (hsub : ∀ p ∈ hdl c₀ ++ tl c₀, p ∈ news) (hadr : ∀ c, (hdl c).map (·.1) = adr) (hoff : ∀ p ∈ tl c₀, ∀ a ∈ adr, p.1 ≠ a)
    (hm : ∀ y, y ≠ x → m₀ y = mm m₀ c₀ y) (h0 : St 0 c₀)
    (turn : ∀ i v c rest h tk, vs[i]? = some v → St i c → (∀ p ∈ tl c, p ∈ rest) → (∀ p ∈ tl c₀, p ∈ tl c) → (∀ p ∈ rest, ∀ a ∈ adr, p.1 ≠ a) → Fr h₀ env.locals h (fun y => if y = x then some v else mm m₀ c y) → News h₀ env.locals h (hdl c ++ rest) →
      wpAny (model prog w) A (execs body env) (TPost h₀ env.locals x (mm m₀) hdl tl (St (i + 1)) c rest Q { s with heap := h, toks := tk }) E { s with heap := h, toks := tk })
    (done : ∀ c u h tk, St vs.length c → (∀ p ∈ tl c₀, p ∈ tl c) → (∀ p ∈ tl c, ∀ a ∈ adr, p.1 ≠ a) → Fr h₀ env.locals h (fun y => if y = x then u else mm m₀ c y) → News h₀ env.locals h (hdl c ++ tl c) → Q .next { s with heap := h, toks := tk }) :
    wpAny (model prog w) A (pyIter (.ref l)) (fun it s₂ => LoopAtV prog w A h₀ env x body Q E it s₂) E s := by
  refine kdl_iter (LJ x (mm m₀) hdl tl adr (tl c₀) St) hh (List.mem_append.mpr (.inr hl)) F (news_sub N hsub) ⟨c₀, rfl, hm, h0, fun _ h => h, hoff⟩ ?_ ?_
  · rintro i v m₁ news₁ h tk own hv ho hl₁ ⟨c, rfl, hm₁, hs, ht, hoff₁⟩ F₁ N₁
    refine wpAny_mono (turn i v c (tl c ++ own) h tk hv hs (fun p hp => List.mem_append.mpr (.inl hp)) ht (rest_off hadr ho hoff₁) (fr_re F₁ fun y => ?_) (by rw [← List.append_assoc]; exact N₁)) (fun f s₂ p => ?_) fun _ _ e => e
    · by_cases hy : y = x
      · rw [if_pos hy, if_pos hy]
      · rw [if_neg hy, if_neg hy, hm₁ y hy]
    · exact tpost_inv hadr ho ht hoff₁ _ (fun m nx hn hj => ⟨hn _ hl, hj⟩) p
  · rintro m₁ news₁ h tk ⟨c, rfl, hm₁, hs, ht, hoff₁⟩ F₁ N₁
    refine done c (m₁ x) h tk hs ht hoff₁ (fr_re F₁ fun y => ?_) N₁
    by_cases hy : y = x
    · rw [if_pos hy, hy]
    · rw [if_neg hy, hm₁ y hy]
theorem for_led {hp9 : Heap} {gn9 : Array GenState} {dr9 : Drawn} {tk9 : Nat} {os9 : OsState} {σ : Type} {l : Addr} {vs : List Value} {nn : Nat} {m₀ : Str → Option Value} {news : List (Addr × Obj)} (mm : (Str → Option Value) → σ → Str → Option Value) (hdl tl : σ → List (Addr × Obj)) (adr : List Addr) (St : Nat → σ → Prop) (c₀ : σ) (hh : A.handled = none) (F : Fr h₀ env.locals hp9 m₀) (N : News h₀ env.locals hp9 news) (hl : (l, listOf vs.toArray nn) ∈ tl c₀) (hsub : ∀ p ∈ hdl c₀ ++ tl c₀, p ∈ news) (hadr : ∀ c, (hdl c).map (·.1) = adr) (hoff : ∀ p ∈ tl c₀, ∀ a ∈ adr, p.1 ≠ a) (hm : ∀ y, y ≠ x → m₀ y = mm m₀ c₀ y) (h0 : St 0 c₀) (turn : ∀ i v c rest h tk, vs[i]? = some v → St i c → (∀ p ∈ tl c, p ∈ rest) → (∀ p ∈ tl c₀, p ∈ tl c) → (∀ p ∈ rest, ∀ a ∈ adr, p.1 ≠ a) → Fr h₀ env.locals h (fun y => if y = x then some v else mm m₀ c y) → News h₀ env.locals h (hdl c ++ rest) →
      ∀ W : Flow → Shared → Prop, (∀ f s₉, TPost h₀ env.locals x (mm m₀) hdl tl (St (i + 1)) c rest Q ⟨h, gn9, dr9, tk, os9⟩ f s₉ → W f s₉) → wpAny (model prog w) A (execs body env) W E ⟨h, gn9, dr9, tk, os9⟩) (done : ∀ c u h tk, St vs.length c → (∀ p ∈ tl c₀, p ∈ tl c) → (∀ p ∈ tl c, ∀ a ∈ adr, p.1 ≠ a) → Fr h₀ env.locals h (fun y => if y = x then u else mm m₀ c y) → News h₀ env.locals h (hdl c ++ tl c) → Q .next ⟨h, gn9, dr9, tk, os9⟩) :
    wpAny (model prog w) A (pyIter (.ref l)) (fun it s₂ => LoopAtV prog w A h₀ env x body Q E it s₂) E ⟨hp9, gn9, dr9, tk9, os9⟩ :=
  for_led_s (s := ⟨hp9, gn9, dr9, tk9, os9⟩) mm hdl tl adr St c₀ hh F N hl hsub hadr hoff hm h0 (fun i v c rest h tk a1 a2 a3 a4 a5 a6 a7 => turn i v c rest h tk a1 a2 a3 a4 a5 a6 a7 _ fun _ _ q => q) done
theorem for_rng_s {σ : Type} {r : Addr} {b₀ : Int} {t₀ u₀ v₀ : Tok} {n : Nat} {m₀ : Str → Option Value} {news : List (Addr × Obj)} (mm : (Str → Option Value) → σ → Str → Option Value) (hdl tl : σ → List (Addr × Obj)) (adr : List Addr) (St : Nat → σ → Prop) (c₀ : σ)
    (hh : A.handled = none) (hr : IsRange s.heap r 0 b₀ 1 t₀ u₀ v₀) (hsmall : Builtin.Range.small 0 b₀ 1 = true) (hsz : Builtin.Range.rangeSize 0 b₀ 1 = (n : Int)) (F : Fr h₀ env.locals s.heap m₀) (N : News h₀ env.locals s.heap news) (hsub : ∀ p ∈ hdl c₀ ++ tl c₀, p ∈ news) (hadr : ∀ c, (hdl c).map (·.1) = adr) (hoff : ∀ p ∈ tl c₀, ∀ a ∈ adr, p.1 ≠ a)
    (hm : ∀ y, y ≠ x → m₀ y = mm m₀ c₀ y) (h0 : St 0 c₀)
    (turn : ∀ (i : Nat) (t : Tok) c rest h tk, i < n → St i c → (∀ p ∈ tl c, p ∈ rest) → (∀ p ∈ tl c₀, p ∈ tl c) → (∀ p ∈ rest, ∀ a ∈ adr, p.1 ≠ a) → Fr h₀ env.locals h (fun y => if y = x then some (.int (i : Int) t) else mm m₀ c y) → News h₀ env.locals h (hdl c ++ rest) →
      wpAny (model prog w) A (execs body env) (TPost h₀ env.locals x (mm m₀) hdl tl (St (i + 1)) c rest Q { s with heap := h, toks := tk }) E { s with heap := h, toks := tk })
    (done : ∀ c u h tk, St n c → (∀ p ∈ tl c₀, p ∈ tl c) → (∀ p ∈ tl c, ∀ a ∈ adr, p.1 ≠ a) → Fr h₀ env.locals h (fun y => if y = x then u else mm m₀ c y) → News h₀ env.locals h (hdl c ++ tl c) → Q .next { s with heap := h, toks := tk }) :
    wpAny (model prog w) A (pyIter (.ref r)) (fun it s₂ => LoopAtV prog w A h₀ env x body Q E it s₂) E s := by
  refine wpAny_pyIter_range hr hsmall ?_
  have W : Walks prog w A s.heap.objs.size [s.heap.objs.size] [s.heap.objs.size] n (fun i v => i < n ∧ ∃ t, v = .int ((0 : Int) + i * 1) t)
      (fun i h => IsRangeIter h s.heap.objs.size ((0 : Int) + (i : Nat) * 1) ((n : Int) - (i : Nat)) 1) := (Walks.range hh _ 0 1 n).bound
  refine kdr_loop (LJ x (mm m₀) hdl tl adr (tl c₀) St) W (fun _ h => h) (fun _ h => h) ?_ ?_ ?_ ?_ (by show IsRangeIter _ _ _ _ _; rw [hsz]; simpa using Heap.get?_push_size _ rfl) (F.push _) (fun p hp => ⟨Heap.get?_push_of_some _ (N p (hsub p hp)).1, (N p (hsub p hp)).2⟩) ⟨c₀, rfl, hm, h0, fun _ h => h, hoff⟩ ?_ ?_
  · intro i h hi b hb
    rw [List.mem_singleton.mp hb]
    exact ⟨_, hi⟩
  · intro hm
    exact absurd F.ns.lt ((List.mem_singleton.mp hm) ▸ Nat.lt_irrefl _)
  · intro b hb
    rw [List.mem_singleton.mp hb]
    exact next_is_new F
  · intro p hp hI
    exact absurd (Heap.lt_size (N p (hsub p hp)).1) ((List.mem_singleton.mp hI) ▸ Nat.lt_irrefl _)
  · rintro i v m₁ news₁ h tk own hin ⟨_, t, rfl⟩ ho ⟨c, rfl, hm₁, hs, ht, hoff₁⟩ F₁ N₁
    refine wpAny_mono (turn i t c (tl c ++ own) h tk hin hs (fun p hp => List.mem_append.mpr (.inl hp)) ht (rest_off hadr ho hoff₁) (fr_re F₁ fun y => ?_) (by rw [← List.append_assoc]; exact N₁)) (fun f s₂ p => ?_) fun _ _ e => e
    · by_cases hy : y = x
      · rw [if_pos hy, if_pos hy]; simp
      · rw [if_neg hy, if_neg hy, hm₁ y hy]
    · exact tpost_inv hadr ho ht hoff₁ _ (fun m nx hn hj => hj) p
  · rintro m₁ news₁ h tk ⟨c, rfl, hm₁, hs, ht, hoff₁⟩ F₁ N₁
    refine done c (m₁ x) h tk hs ht hoff₁ (fr_re F₁ fun y => ?_) N₁
    by_cases hy : y = x
    · rw [if_pos hy, hy]
    · rw [if_neg hy, hm₁ y hy]
theorem for_rng {hp9 : Heap} {gn9 : Array GenState} {dr9 : Drawn} {tk9 : Nat} {os9 : OsState} {σ : Type} {r : Addr} {b₀ : Int} {t₀ u₀ v₀ : Tok} {n : Nat} {m₀ : Str → Option Value} {news : List (Addr × Obj)} (mm : (Str → Option Value) → σ → Str → Option Value) (hdl tl : σ → List (Addr × Obj)) (adr : List Addr) (St : Nat → σ → Prop) (c₀ : σ) (hh : A.handled = none) (hr : IsRange hp9 r 0 b₀ 1 t₀ u₀ v₀) (hsmall : Builtin.Range.small 0 b₀ 1 = true) (hsz : Builtin.Range.rangeSize 0 b₀ 1 = (n : Int)) (F : Fr h₀ env.locals hp9 m₀) (N : News h₀ env.locals hp9 news) (hsub : ∀ p ∈ hdl c₀ ++ tl c₀, p ∈ news) (hadr : ∀ c, (hdl c).map (·.1) = adr) (hoff : ∀ p ∈ tl c₀, ∀ a ∈ adr, p.1 ≠ a) (hm : ∀ y, y ≠ x → m₀ y = mm m₀ c₀ y) (h0 : St 0 c₀) (turn : ∀ (i : Nat) (t : Tok) c rest h tk, i < n → St i c → (∀ p ∈ tl c, p ∈ rest) → (∀ p ∈ tl c₀, p ∈ tl c) → (∀ p ∈ rest, ∀ a ∈ adr, p.1 ≠ a) → Fr h₀ env.locals h (fun y => if y = x then some (.int (i : Int) t) else mm m₀ c y) → News h₀ env.locals h (hdl c ++ rest) →
      ∀ W : Flow → Shared → Prop, (∀ f s₉, TPost h₀ env.locals x (mm m₀) hdl tl (St (i + 1)) c rest Q ⟨h, gn9, dr9, tk, os9⟩ f s₉ → W f s₉) → wpAny (model prog w) A (execs body env) W E ⟨h, gn9, dr9, tk, os9⟩) (done : ∀ c u h tk, St n c → (∀ p ∈ tl c₀, p ∈ tl c) → (∀ p ∈ tl c, ∀ a ∈ adr, p.1 ≠ a) → Fr h₀ env.locals h (fun y => if y = x then u else mm m₀ c y) → News h₀ env.locals h (hdl c ++ tl c) → Q .next ⟨h, gn9, dr9, tk, os9⟩) :
    wpAny (model prog w) A (pyIter (.ref r)) (fun it s₂ => LoopAtV prog w A h₀ env x body Q E it s₂) E ⟨hp9, gn9, dr9, tk9, os9⟩ :=
  for_rng_s (s := ⟨hp9, gn9, dr9, tk9, os9⟩) mm hdl tl adr St c₀ hh hr hsmall hsz F N hsub hadr hoff hm h0 (fun i v c rest h tk a1 a2 a3 a4 a5 a6 a7 => turn i v c rest h tk a1 a2 a3 a4 a5 a6 a7 _ fun _ _ q => q) done
end
end S_L1
section S_L2
noncomputable def WEnd {σ : Type} (h₀ : Heap) (L : Addr) (mm : σ → Str → Option Value) (led : σ → List (Addr × Obj)) (μ : σ → Nat) (St : σ → Prop) (c : σ) (s₁ : Shared) (f : Flow) (s₂ : Shared) : Prop :=
  f = .next ∧ ∃ h' tk m' c', s₂ = { s₁ with heap := h', toks := tk } ∧ Fr h₀ L h' m' ∧ News h₀ L h' (led c') ∧ (∀ y, m' y = mm c' y) ∧ μ c' < μ c ∧ St c'
theorem WEnd.fin {σ : Type} {h₀ : Heap} {L : Addr} {mm : σ → Str → Option Value} {led : σ → List (Addr × Obj)} {μ : σ → Nat} {St : σ → Prop} {c : σ} {s₁ : Shared} {h' : Heap} {tk : Nat} {m' : Str → Option Value} {news' : List (Addr × Obj)} (c' : σ) (F : Fr h₀ L h' m') (N : News h₀ L h' news') (sub : ∀ p ∈ led c', p ∈ news') (hm : ∀ y, m' y = mm c' y) (hμ : μ c' < μ c) (hs : St c') :
    WEnd h₀ L mm led μ St c s₁ .next { s₁ with heap := h', toks := tk } := ⟨rfl, h', tk, m', c', rfl, F, fun p hp => N p (sub p hp), hm, hμ, hs⟩
section
variable {prog : Program} {w : World} {A : Around} {E : Value → Shared → Prop} {Q : Flow → Shared → Prop} {s : Shared} {env : Env} {h₀ : Heap} {L : Addr}
theorem while_st_s {σ : Type} {test : Expr} {body : List Stmt} {pos : Pos} {m₀ : Str → Option Value} {news : List (Addr × Obj)} (mm : (Str → Option Value) → σ → Str → Option Value) (led : σ → List (Addr × Obj)) (μ : σ → Nat) (St : σ → Prop) (c₀ : σ)
    (F : Fr h₀ L s.heap m₀) (N : News h₀ L s.heap news) (hsub : ∀ p ∈ led c₀, p ∈ news) (hm : ∀ y, m₀ y = mm m₀ c₀ y) (h0 : St c₀)
    (turn : ∀ c h tk, St c → Fr h₀ L h (mm m₀ c) → News h₀ L h (led c) →
      wpAny (model prog w) A (isTrue test env (eval test env)) (fun b s₂ => if b = true then wpAny (model prog w) A (execs body env) (WEnd h₀ L (mm m₀) led μ St c { s with heap := h, toks := tk }) E s₂ else Q .next s₂) E { s with heap := h, toks := tk })
    (hE : PassesOwn (model prog w) A env E := by passes_own) :
    wpAny (model prog w) A (exec (.While test body [] pos) env) Q E s := by
  refine While_inv (fun n m nx => ∃ c, (∀ y, m y = mm m₀ c y) ∧ nx = led c ∧ μ c = n ∧ St c) F (news_sub N hsub) ⟨c₀, hm, rfl, rfl, h0⟩ ?_ hE
  rintro n m₁ news₁ h₁ tk₁ F₁ N₁ ⟨c, hm₁, rfl, rfl, hs⟩
  refine wpAny_mono (turn c h₁ tk₁ hs (fr_re F₁ hm₁) N₁) (fun b s₂ h => ?_) fun _ _ e => e
  cases b with
  | false =>
    rw [if_neg (by decide)] at h ⊢
    exact h
  | true =>
    rw [if_pos rfl] at h ⊢
    refine wpAny_mono h (fun f s₃ hw => ?_) fun _ _ e => e
    obtain ⟨rfl, h', tk, m', c', rfl, F', N', hm', hμ, hs'⟩ := hw
    exact ⟨rfl, h', tk, m', led c', μ c', rfl, F', N', hμ, c', hm', rfl, rfl, hs'⟩
theorem while_st {hp9 : Heap} {gn9 : Array GenState} {dr9 : Drawn} {tk9 : Nat} {os9 : OsState} {σ : Type} {test : Expr} {body : List Stmt} {pos : Pos} {m₀ : Str → Option Value} {news : List (Addr × Obj)} (mm : (Str → Option Value) → σ → Str → Option Value) (led : σ → List (Addr × Obj)) (μ : σ → Nat) (St : σ → Prop) (c₀ : σ) (F : Fr h₀ L hp9 m₀) (N : News h₀ L hp9 news) (hsub : ∀ p ∈ led c₀, p ∈ news) (hm : ∀ y, m₀ y = mm m₀ c₀ y) (h0 : St c₀) (turn : ∀ c h tk, St c → Fr h₀ L h (mm m₀ c) → News h₀ L h (led c) →
      ∀ W : Flow → Shared → Prop, (∀ f s₉, WEnd h₀ L (mm m₀) led μ St c ⟨h, gn9, dr9, tk, os9⟩ f s₉ → W f s₉) → wpAny (model prog w) A (isTrue test env (eval test env)) (fun b s₂ => if b = true then wpAny (model prog w) A (execs body env) W E s₂ else Q .next s₂) E ⟨h, gn9, dr9, tk, os9⟩) (hE : PassesOwn (model prog w) A env E := by passes_own) :
    wpAny (model prog w) A (exec (.While test body [] pos) env) Q E ⟨hp9, gn9, dr9, tk9, os9⟩ :=
  while_st_s (s := ⟨hp9, gn9, dr9, tk9, os9⟩) mm led μ St c₀ F N hsub hm h0 (fun c h tk a1 a2 a3 => turn c h tk a1 a2 a3 _ fun _ _ q => q) hE
end
theorem len_vs {prog : Program} {w : World} {A : Around} {E : Value → Shared → Prop} {s : Shared} {l : Addr} {vs : List Value} {Q : Value → Shared → Prop} (hl : s.heap.IsList l vs.toArray) (hfit : vs.length < 2 ^ 63)
    (h : Q (.int (vs.length : Int) (s.toks + 1)) { s with toks := s.toks + 1 + 1 }) : wpAny (model prog w) A (call (.builtin "len") [.ref l]) Q E s :=
  len_list hl (by simpa using (by omega : (vs.length : Int) < 2 ^ 63)) (by simpa using h)
theorem pick_upto (vs : List Value) {y : Int} (h : 0 ≤ y) : slicePick vs.toArray none (some y) none = (vs.take y.toNat).toArray := by
  have e : sliceBounds none (some y) none vs.toArray.size = (((0 : Nat) : Int), ((min y.toNat vs.toArray.size : Nat) : Int), 1) := by
    simp only [sliceBounds, Option.getD_none, show (1 : Int) > 0 by decide, if_true, if_neg (show ¬ (y < 0) by omega)]
    congr 1
    congr 1
    omega
  rw [kmk_pick_nat _ e, List.drop_zero, Nat.sub_zero, List.size_toArray, kmk_take_min]
theorem dats_take {news : List (Addr × Obj)} {vs : List Value} {ds : List Dat} (h : DatAll news vs ds) : ∀ k, DatAll news (vs.take k) (ds.take k) := by
  induction vs generalizing ds with
  | nil => intro k; cases h; simpa using DatAll.nil
  | cons v vs ih =>
    intro k
    cases h with
    | cons h r =>
      cases k with
      | zero => exact .nil
      | succ k => exact .cons h (ih r k)
end S_L2
local macro_rules | `(tactic| k_mem) => `(tactic| first | with_reducible exact List.mem_cons_self | with_reducible assumption | (with_reducible refine List.mem_cons_of_mem _ ?_; k_mem))
local macro_rules | `(tactic| k_room) => `(tactic| ktr_room)
local macro_rules | `(tactic| walk_at "eval Name") => `(tactic| (k_here; name_kind "free"; k_dflt (refine' nameX_F ?N ?c ?m ?d ?_ ?a ?b; (case a => rfl); (case b => rfl); (case N => k_asm); (case c => rfl); (case m => first | with_reducible assumption | k_mem); (case d => first | assumption | k_asm); k_whole)))
local macro_rules | `(tactic| walk_at "eval Name") => `(tactic| (k_here; name_kind "cell"; k_dflt (refine' nameX_C ?N ?c ?m ?d ?_ ?a ?b; (case a => rfl); (case b => rfl); (case N => k_asm); (case c => rfl); (case m => k_mem); (case d => first | assumption | k_asm); k_whole)))
local macro_rules | `(tactic| walk_at "eval Name") => `(tactic| (k_here; name_kind "local"; (with_reducible rename Fr _ _ _ _ => kF); k_dflt (refine' nameX_L kF ?c ?_ ?a ?b; (case a => rfl); (case b => rfl); (case c => exact rfl); k_whole)))
local macro_rules | `(tactic| walk_at "eval ListComp") => `(tactic| refine Halt.out ?_)
local macro_rules | `(tactic| walk_at "M.enter") => `(tactic| (refine wpAny_call ?_; k_dflt (refine' PySem.W.code_def ?k1 ?k2 ?k3 ?k4 ?k5 ?kA ?kF ?kK ?k6 ?k7 ?k8 ?k9 ?kB ?_ ?c2 ?c3 ?c4 ?c5; (case kA => exact rfl); (case kF => exact rfl); (case kK => assumption); (case k1 => k_asm); (case k2 => k_asm); (case k3 => k_asm); (case k4 => k_asm); (case k5 => k_asm); (case k6 => k_is); (case k7 => k_is); (case k8 => ktr_room); (case k9 => exact BindsTo.of_eq rfl); (case c5 => decide); (case kB => exact locs rfl); (case c2 => exact rfl); (case c3 => exact rfl); (case c4 => exact rfl); k_whole; intro g' L' h' FG' F' N' B' X' T'; (try dsimp only); (try k_fold))))
local macro_rules | `(tactic| walk_at "subscriptTail") => `(tactic| (k_here; (with_reducible show wpAny _ _ (subscriptTail _ _ (Value.ref _) (Value.int _ _)) _ _ _); k_dflt (refine' item_tupleT ?t ?a ?b ?c ?d ?_; (case t => exact News.isTup (by k_asm) (by first | with_reducible assumption | k_mem)); (case a => decide); (case b => decide); (case c => rfl); (case d => rfl); k_whole)))
local macro_rules | `(tactic| walk_at "callWith ref") => `(tactic| (k_here; k_dflt (first
  | (refine' callWith_F ?k1 ?_; (case k1 => exact FnAt.of (by k_asm) (by k_mem)); k_whole)
  | (refine' callWith_F0 ?k1 ?_; (case k1 => exact FnAt.of (by k_asm) (by k_mem)); k_whole; try dsimp only [List.nil_append, List.cons_append]))))
local macro_rules | `(tactic| walk_at "FnAt") => `(tactic| (k_dflt (exact FnAt.of (by k_asm) (by k_mem))))
local macro_rules | `(tactic| walk_at "M.lt") => `(tactic| first | assumption | exact And.right (by assumption) | exact And.right (And.right (by assumption)) | exact And.right (And.right (And.right (by assumption))) | exact And.right (And.right (And.right (And.right (by assumption)))) | exact And.right (And.right (And.right (And.right (And.right (by assumption))))) | exact And.right (And.right (And.right (And.right (And.right (And.right (by assumption)))))) | exact And.right (And.right (And.right (And.right (And.right (And.right (And.right (by assumption)))))))  | exact And.right (And.right (And.right (And.right (And.right (And.right (And.right (And.right (by assumption)))))))))
local macro_rules | `(tactic| walk_at "M.sub") => `(tactic| repeat (first | with_reducible exact sub_refl | refine sub_skip ?_))
local macro_rules | `(tactic| walk_at "exec For") => `(tactic| (k_here; (with_reducible rename Fr _ _ _ _ => kF); k_dflt (refine For_invVF kF (by rfl) (by rfl) ?_)))
local macro_rules | `(tactic| walk_at "pyIter ref") => `(tactic| refine Halt.out ?_)
local macro_rules | `(tactic| walk_at "exec Assign cons ListComp") => `(tactic| refine Halt.out ?_)
local macro_rules | `(tactic| walk_at "call builtin:len") => `(tactic| (k_here; (with_reducible show wpAny _ _ (call (Value.builtin "len") [Value.ref _]) _ _ _); k_dflt (refine' len_vs (News.isList (by k_asm) (by k_mem)) ?fit ?_; (case fit => omega))))
local macro_rules | `(tactic| walk_at "subscriptTail") => `(tactic| (k_here; (with_reducible show wpAny _ _ (subscriptTail _ _ (Value.ref _) (Value.int _ _)) _ _ _); k_dflt (refine' item_listL (News.isList (by k_asm) (by k_mem)) ?h0 ?fit ?hx ?_; (case hx => with_reducible assumption); (case h0 => omega); (case fit => omega))))
local macro_rules | `(tactic| walk_at "exec While") => `(tactic| refine Halt.out ?_)
local macro_rules | `(tactic| walk_at "CompSrcT") => `(tactic| refine Halt.out ?_)
local macro_rules | `(tactic| walk_at "CompSrc") => `(tactic| refine Halt.out ?_)
local macro_rules | `(tactic| walk_at "subscriptTail Name Slice ref ref") => `(tactic| (k_here; (with_reducible show wpAny _ _ (subscriptTail _ (PySem.Expr.Slice _ _ none _) (Value.ref _) (Value.ref _)) _ _ _); k_dflt (refine' kmk_slice ?F ?N ?l ?p ?q ?_ ?s ?t ?z; (case F => k_asm); (case N => k_asm); (case l => exact News.isList (by k_asm) (by k_mem)); (case p => kmk_part); (case q => kmk_part); (case s => with_unfolding_all rfl); (case t => kmk_pure); (case z => (rw [List.size_toArray]; exact Nat.le_trans (by assumption) (Nat.le_of_ble_eq_true rfl)))); intro D' h' F' N' l1; (try k_lt l1)))
section G_P2_P6
local macro_rules | `(tactic| k_all) => `(tactic| first | with_reducible assumption | exact allLt_ne (by walk_at "M.lt") | exact lt_neK (by with_reducible assumption))
local macro_rules | `(tactic| walk_at "M.enterC") => `(tactic| (refine wpAny_call ?_; k_dflt (refine' PySem.W.code_defC ?k1 ?k2 ?k3 ?k4 ?k5 ?kA ?kF ?kK ?k6 ?k7 ?k8 ?k9 ?kB ?kD ?_ ?c2 ?c3 ?c4; (case kA => exact rfl); (case kF => exact rfl); (case kK => assumption); (case k1 => k_asm); (case k2 => k_asm); (case k3 => k_asm); (case k4 => k_asm); (case k5 => k_asm); (case k6 => k_is); (case k7 => k_is); (case k8 => ktr_room); (case k9 => exact BindsTo.of_eq rfl); (case kB => exact rfl); (case kD => decide +kernel); (case c2 => exact rfl); (case c3 => exact rfl); (case c4 => exact rfl); k_whole; intro g' L' h' tk' cells' FG' F' N' Y' B' X' T' l1; k_cells Y'; (try simp only [List.cons_append, List.nil_append] at N'); (try dsimp only); (try k_fold))))
section S_P2
/-- a call of the lambda reads the list ahead -/
structure LamOk (w : World) (mean : ExcName → Option Value) (mg mb : Str → Option Value) (lam : Addr) (ns : List Int) (led : List (Addr × Obj)) : Prop where
  fn : ∃ oc od fd sl, (lam, (⟨oc, od, .func fd, sl⟩ : Obj)) ∈ led
  ok : ∀ news, (∀ p ∈ led, p ∈ news) → ∀ (i : Int) (t : Tok), 0 ≤ i → i < ns.length → Calls w mean mg mb 3 30 news lam [.int i t] (fun r news' => (∃ t', r = .int (ns.getD i.toNat 0) t') ∧ news' = news)
theorem LamOk.mono {w : World} {mean : ExcName → Option Value} {mg mb : Str → Option Value} {lam : Addr} {ns : List Int} {led led' : List (Addr × Obj)} (h : LamOk w mean mg mb lam ns led) (hs : ∀ p ∈ led, p ∈ led') : LamOk w mean mg mb lam ns led' :=
  ⟨by obtain ⟨a, b, c, d, e⟩ := h.fn; exact ⟨a, b, c, d, hs _ e⟩, fun news hn => h.ok news fun p hp => hn p (hs p hp)⟩
theorem codeRec_in {h₀ heap : Heap} {L c' : Addr} {news : List (Addr × Obj)} {oc : Obj} {vs : Array Value} {q : Str} {t : Tok} (N : News h₀ L heap news) (hm : (c', oc) ∈ news) (hd : oc.data = .fields vs) (hv : vs[1]? = some (.str q t)) : heap.CodeRec (.ref c') q := codeRec_news N hm hd hv
noncomputable abbrev lamArgs (p : Pos) : Arguments := { posonlyargs := [], args := [{ arg := Str.ofString "label", annotation := none, pos := p }], vararg := none, kwonlyargs := [], kw_defaults := [], kwarg := none, defaults := [] }
noncomputable abbrev lamBody (p2 p3 p4 : Pos) : Expr := .Subscript (.Name (Str.ofString "ahead") p2) (.Name (Str.ofString "label") p3) p4
noncomputable abbrev lamScope : Scope := { kind := .function, names := [(Str.ofString "label", .local), (Str.ofString "ahead", .free)], isGenerator := false, isCoroutine := false, more := [] }
noncomputable abbrev lamObj (q : Str) (p1 p2 p3 p4 : Pos) (ca : Addr) (pm : Value) (c' : Addr) (ctv : Value) : Obj := kla_obj (Str.ofString "<lambda>") q (lamArgs p1) (lamBody p2 p3 p4) lamScope [(Str.ofString "ahead", ca)] pm c' ctv
theorem lam_spec {w : World} {mean : ExcName → Option Value} {mg mb : Str → Option Value} {q : Str} {p1 p2 p3 p4 : Pos} {lam ca c' al : Addr} {pm ctv : Value} {oa oc : Obj} {vsc : Array Value} {t : Tok} {vs : List Value} {ns : List Int} {n : Nat} {led : List (Addr × Obj)}
    (h1 : (lam, lamObj q p1 p2 p3 p4 ca pm c' ctv) ∈ led) (h2 : (ca, oa) ∈ led) (h3 : oa.data = .cell (some (.ref al))) (h4 : (al, listOf vs.toArray n) ∈ led) (h5 : (c', oc) ∈ led) (h6 : oc.data = .fields vsc) (h7 : vsc[1]? = some (.str q t))
    (hi : IntsAre vs ns) (hlen : ns.length ≤ 100) : LamOk w mean mg mb lam ns led := by
  refine ⟨⟨_, _, _, _, h1⟩, ?_⟩
  intro news hs i ti hi0 hi1 dp un gd cn cs a ccd cl outer A₀ base h₀ L m s Q E B F X N T hk hd hu hret
  replace h1 := hs _ h1; replace h2 := hs _ h2; replace h4 := hs _ h4; replace h5 := hs _ h5
  clear hs
  refine wpAny_call ?_
  k_dflt (refine kla_code B F X N T rfl rfl hk h1 (codeRec_in N h5 h6 h7) (by ktr_room) rfl (locs rfl) ?_ rfl rfl rfl (by decide))
  intro g' L' h' FG' F' N' B' X' T'
  dsimp only
  k_steps
  all_goals exact hret _ _ _ _ (by assumption) (by assumption) ⟨⟨_, rfl⟩, rfl⟩
theorem chd_mk {K : Frag} {h : Heap} {c P : Addr} {od : Option Addr} {vs : Array Value} {sl : Array (Option Value)} {file : Str} {flags text : Int} {tf tg tt : Tok} {inF : Bool} (X : K.In h) (hl : K.lookup c = some ⟨.type "code", od, .fields vs, sl⟩) (a1 : vs[11]? = some (.ref P)) (a2 : vs.getD 11 .none = .ref P) (a3 : vs.getD 18 .none = .str file tf)
    (a4 : vs.getD 7 .none = .int flags tg) (a5 : vs.getD 9 .none = .bool inF) (a6 : vs.getD 10 .none = .int text tt) (a7 : c ≠ P) : CodeHd h c P := ⟨_, vs, file, tf, flags, tg, inF, text, tt, X _ _ hl, rfl, rfl, a1, a2, a3, a4, a5, a6, a7⟩
theorem chd58 {w : World} {h : Heap} (X : (hd.heap_39 w.params).In h) : CodeHd h 58 56 := by
  k_dflt (refine' chd_mk X ?l ?a1 ?a2 ?a3 ?a4 ?a5 ?a6 ?a7; (case l => k_is); (case a1 => exact rfl); (case a2 => exact rfl); (case a3 => exact rfl); (case a4 => exact rfl); (case a5 => exact rfl); (case a6 => exact rfl); (case a7 => decide))
theorem chd424 {w : World} {h : Heap} (X : (hd.heap_39 w.params).In h) : CodeHd h 424 420 := by
  k_dflt (refine' chd_mk X ?l ?a1 ?a2 ?a3 ?a4 ?a5 ?a6 ?a7; (case l => k_is); (case a1 => exact rfl); (case a2 => exact rfl); (case a3 => exact rfl); (case a4 => exact rfl); (case a5 => exact rfl); (case a6 => exact rfl); (case a7 => decide))
theorem mk_code {name qual : Str} {params : Arguments} {body : FuncBody} {scope : Scope} {e1 e2 : Env} {pos : Pos} {l : Nat} (h3 : e1.code = e2.code) (h5 : e1.scope.kind = e2.scope.kind) : functionCode e1 pos l name qual params scope body = functionCode e2 pos l name qual params scope body := by
  unfold functionCode codeAt
  rw [h3, h5]
theorem mk_env {name qual : Str} {params : Arguments} {body : FuncBody} {scope : Scope} {e1 e2 : Env} {pos : Pos} {l : Nat} (h1 : closureFor scope e1 = closureFor scope e2) (h2 : e1.globals = e2.globals) (h3 : e1.code = e2.code) (h4 : e1.builtins = e2.builtins) (h5 : e1.scope.kind = e2.scope.kind) :
    makeFunction name qual params body scope e1 [] [] [] pos l = makeFunction name qual params body scope e2 [] [] [] pos l := by
  rw [makeFunction_eq, makeFunction_eq]
  simp only [List.zip_nil_right, List.filterMap_nil, List.isEmpty_nil, if_true, pure_bind]
  unfold makeTail
  rw [h1, h2, h4, mk_code h3 h5]
theorem inL {x : Addr × Obj} {add others : List (Addr × Obj)} {y : Addr × Obj} (h : x ∈ others) : x ∈ add ++ y :: others := List.mem_append.mpr (.inr (List.mem_cons_of_mem _ h))
noncomputable def TabSt (q : Str) (ps : Array Value) (news : List (Addr × Obj)) : Prop :=
  ps = #[] ∨ ∃ c' oc vs t, ps = #[rawInt 38, rawInt 27, .ref c'] ∧ (c', oc) ∈ news ∧ oc.data = .fields vs ∧ vs[1]? = some (.str q t)
theorem TabSt.mono {q : Str} {ps : Array Value} {news news' : List (Addr × Obj)} (h : TabSt q ps news) (hs : ∀ p ∈ news, p ∈ news') : TabSt q ps news' := by
  rcases h with h | ⟨c', oc, vs, t, e, hm, r⟩
  · exact .inl h
  · exact .inr ⟨c', oc, vs, t, e, hs _ hm, r⟩
/-- the lambda of pressed, made within its comprehension -/
theorem lam_make_s {w : World} {A : Around} {E : Value → Shared → Prop} {s : Shared} {Q : Value → Shared → Prop} {mean : ExcName → Option Value} {mg mb : Str → Option Value} {h₀ : Heap} {L a C ca al : Addr} {m : Str → Option Value} {cn : Str} {cs : Scope} {cells cl : List (Str × Addr)} {scope : Scope} {ps : Array Value} {others told : List (Addr × Obj)} {oa : Obj} {vs : List Value} {ns : List Int} {n : Nat} {p1 p2 p3 p4 : Pos} {e1 e2 : Nat}
    (F : Fr h₀ L s.heap m) (N : News h₀ L s.heap ((56, tabObj ps) :: others)) (T : Top topProg LL mean mg mb h₀) (X : (hd.heap_39 w.params).In h₀) (h56 : ∀ p ∈ others, p.1 ≠ 56)
    (hT : TabSt ((compEnvC scope cl C (envX cn cs L a (.ref 58) cells)).qual ++ "<lambda>") ps told) (hto : ∀ p ∈ told, p ∈ others)
    (hcl : closureFor lamScope (compEnvC scope cl C (envX cn cs L a (.ref 58) cells)) = pure [(Str.ofString "ahead", ca)]) (hcl2 : closureFor lamScope (envX cn cs L a (.ref 58) cells) = pure [(Str.ofString "ahead", ca)])
    (h2 : (ca, oa) ∈ others) (h3 : oa.data = .cell (some (.ref al))) (h4 : (al, listOf vs.toArray n) ∈ others) (hi : IntsAre vs ns) (hlen : ns.length ≤ 100) (hk1 : scope.kind = .function) (hk2 : cs.kind = .function)
    (hQ : ∀ f h' tk' add ps', Fr h₀ L h' m → News h₀ L h' (add ++ (56, tabObj ps') :: others) → Fresh add ((56, tabObj ps) :: others) → TabSt ((compEnvC scope cl C (envX cn cs L a (.ref 58) cells)).qual ++ "<lambda>") ps' (add ++ told) →
      LamOk w mean mg mb f ns (add ++ (56, tabObj ps') :: others) → Q (.ref f) { s with heap := h', toks := tk' }) :
    wpAny (model PySem.Challenge.rw_pb0246_01.row.prog w) A (eval (.Lambda (lamArgs p1) (lamBody p2 p3 p4) lamScope ⟨38, 27, e1, e2⟩) (compEnvC scope cl C (envX cn cs L a (.ref 58) cells))) Q E s := by
  refine kla_eval rfl ?_
  rw [mk_env (e2 := envX cn cs L a (.ref 58) cells) (hcl.trans hcl2.symm) rfl rfl rfl (hk1.trans hk2.symm)]
  rcases hT with rfl | ⟨c', oc, vsc, t, rfl, hm, hd, hv⟩
  · refine kla_nest F N T (chd58 X) rfl (UpdF.head h56) trivial rfl hcl2 fun f c' oc vsc t ctv h' tk F' N' hd hv l1 l2 => ?_
    refine hQ f h' tk [(f, _), (c', oc)] _ F' N' ?_ (.inr ⟨c', oc, vsc, t, rfl, List.mem_cons_of_mem _ List.mem_cons_self, hd, hv⟩) ?_
    · intro p hp q hq
      rcases List.mem_cons.mp hp with rfl | hp
      · exact Nat.ne_of_lt (Nat.lt_trans (l1 q hq) l2)
      · rw [List.mem_singleton.mp hp]; exact Nat.ne_of_lt (l1 q hq)
    · exact lam_spec (List.mem_cons_self) (inL h2) h3 (inL h4) (List.mem_cons_of_mem _ List.mem_cons_self) hd hv hi hlen
  · refine kla_hit F N T (chd58 X) rfl List.mem_cons_self (by simp [TriplesOk, rawInt]) rfl hcl2 fun f ctv h' tk F' N' l1 => ?_
    refine hQ f h' tk [(f, _)] _ F' N' ?_ (.inr ⟨c', oc, vsc, t, rfl, List.mem_cons_of_mem _ hm, hd, hv⟩) ?_
    · intro p hp q hq
      rw [List.mem_singleton.mp hp]; exact Nat.ne_of_lt (l1 q hq)
    · exact lam_spec (List.mem_cons_self) (inL h2) h3 (inL h4) (inL (hto _ hm)) hd hv hi hlen
theorem lam_make {w : World} {A : Around} {E : Value → Shared → Prop} {hp9 : Heap} {gn9 : Array GenState} {dr9 : Drawn} {tk9 : Nat} {os9 : OsState} {Q : Value → Shared → Prop} {mean : ExcName → Option Value} {mg mb : Str → Option Value} {h₀ : Heap} {L a C ca al : Addr} {m : Str → Option Value} {cn : Str} {cs : Scope} {cells cl : List (Str × Addr)} {scope : Scope} {ps : Array Value} {others told : List (Addr × Obj)} {oa : Obj} {vs : List Value} {ns : List Int} {n : Nat} {p1 p2 p3 p4 : Pos} {e1 e2 : Nat} (F : Fr h₀ L hp9 m) (N : News h₀ L hp9 ((56, tabObj ps) :: others)) (T : Top topProg LL mean mg mb h₀) (X : (hd.heap_39 w.params).In h₀) (h56 : ∀ p ∈ others, p.1 ≠ 56) (hT : TabSt ((compEnvC scope cl C (envX cn cs L a (.ref 58) cells)).qual ++ "<lambda>") ps told) (hto : ∀ p ∈ told, p ∈ others) (hcl : closureFor lamScope (compEnvC scope cl C (envX cn cs L a (.ref 58) cells)) = pure [(Str.ofString "ahead", ca)]) (hcl2 : closureFor lamScope (envX cn cs L a (.ref 58) cells) = pure [(Str.ofString "ahead", ca)]) (h2 : (ca, oa) ∈ others) (h3 : oa.data = .cell (some (.ref al))) (h4 : (al, listOf vs.toArray n) ∈ others) (hi : IntsAre vs ns) (hlen : ns.length ≤ 100) (hk1 : scope.kind = .function) (hk2 : cs.kind = .function) (hQ : ∀ f h' tk' add ps', Fr h₀ L h' m → News h₀ L h' (add ++ (56, tabObj ps') :: others) → Fresh add ((56, tabObj ps) :: others) → TabSt ((compEnvC scope cl C (envX cn cs L a (.ref 58) cells)).qual ++ "<lambda>") ps' (add ++ told) →
      LamOk w mean mg mb f ns (add ++ (56, tabObj ps') :: others) → Q (.ref f) ⟨h', gn9, dr9, tk', os9⟩) :
    wpAny (model PySem.Challenge.rw_pb0246_01.row.prog w) A (eval (.Lambda (lamArgs p1) (lamBody p2 p3 p4) lamScope ⟨38, 27, e1, e2⟩) (compEnvC scope cl C (envX cn cs L a (.ref 58) cells))) Q E ⟨hp9, gn9, dr9, tk9, os9⟩ :=
  lam_make_s (s := ⟨hp9, gn9, dr9, tk9, os9⟩) F N T X h56 hT hto hcl hcl2 h2 h3 h4 hi hlen hk1 hk2 hQ
end S_P2
section S_P3
inductive Op where
  | non
  | jump (l : Int)
  | put (d : Dat) (l : Int)
  | test (d : Dat) (l : Int)
  | choose (a b : Int)
  | push (d : Dat)
  | deed (d : Dat)
  | stop (d : Dat)
noncomputable abbrev sD (s : String) : Dat := .str (Str.ofString s)
noncomputable def Op.dat : Op → Dat
  | .non => .none
  | .jump l => .tuple [sD "jump", .int l]
  | .put d l => .tuple [sD "put", d, .int l]
  | .test d l => .tuple [sD "test", d, .int l]
  | .choose a b => .tuple [sD "choose", .tuple [.int a, .int b]]
  | .push d => .tuple [sD "push", d, .int (-1)]
  | .deed d => .tuple [sD "do", d]
  | .stop d => .tuple [sD "stop", d]
noncomputable def Op.re (f : Int → Int) : Op → Op
  | .jump l => .jump (f l)
  | .put d l => .put d (f l)
  | .test d l => .test d (f l)
  | .choose a b => .choose (f a) (f b)
  | o => o
noncomputable def Op.labels : Op → List Int
  | .jump l | .put _ l | .test _ l => [l]
  | .choose a b => [a, b]
  | _ => []
theorem fresh_one {a : Addr} {o : Obj} {news : List (Addr × Obj)} (h : AllLt a news) : Fresh [(a, o)] news := by
  intro p hp q hq
  rcases List.mem_cons.mp hp with rfl | hp
  · exact Nat.ne_of_lt (allLt_mem h q hq)
  · cases hp
/-- the lookup in ahead -/
noncomputable abbrev ahd (ns : List Int) (l : Int) : Int := ns.getD l.toNat 0
noncomputable def RelPost (news src : List (Addr × Obj)) (d : Dat) (r : Value) (news' : List (Addr × Obj)) : Prop :=
  ∃ add, news' = add ++ news ∧ Fresh add news ∧ DatIn (add ++ src) r d
local macro_rules | `(tactic| walk_at "call ref") => `(tactic| (k_here; (with_reducible rename LamOk _ _ _ _ _ _ _ => hLam); k_dflt (refine Calls.use (hLam.ok _ ?hsub _ _ ?h1 ?h2) (by assumption) (by assumption) (by assumption) (by assumption) (fun _ h => h) (by assumption) (by first | assumption | rfl) (by ktr_room) (by ktr_units) ?_; (case hsub => (intro p hp; repeat (first | exact hp | refine List.Mem.tail _ ?_))); (case h1 => first | assumption | omega); (case h2 => first | assumption | omega)); intro r' nw' h' tk' F' N' hP'; obtain ⟨⟨t9', hr9'⟩, hn9'⟩ := hP'; subst hr9' hn9'))
theorem rel_put {w : World} {mean : ExcName → Option Value} {mg mb : Str → Option Value} {lam : Addr} {ns : List Int} {news src : List (Addr × Obj)} {v : Value} {d : Dat} {l : Int}
    (hLam : LamOk w mean mg mb lam ns news) (hsrc : ∀ p ∈ src, p ∈ news) (hv : DatIn src v (Op.put d l).dat) (hl0 : 0 ≤ l) (hl1 : l < ns.length) :
    Calls w mean mg mb 20 200 news 54 [v, .ref lam] (RelPost news src ((Op.put d l).re (ahd ns)).dat) := by
  cases hv with
  | tuple hm hall =>
  rename_i ta vs n
  cases hall with
  | cons h0 hall =>
  cases hall with
  | cons h1 hall =>
  cases hall with
  | cons h2 hall =>
  cases hall
  cases h0
  cases h2
  have hm0 := hm; replace hm := hsrc _ hm
  obtain ⟨lc, lod, lfd, lsl, hfn⟩ := hLam.fn
  intro dp un gd cn cs a ccd cl outer A₀ base h₀ L m s Q E B F X N T hk hd hu hret
  walk_at "M.enterC"
  refine noE ?_
  k_steps
  all_goals first
  | (exfalso; walk_at "om")
  | (refine hret (.ref _) (_ :: news) _ _ (by assumption) (news_sub (by assumption) (sub_top (by walk_at "M.sub"))) ⟨[_], rfl, fresh_one (by walk_at "M.lt"), .tuple List.mem_cons_self (.cons (.str _ _) (.cons (h1.mono fun _ h => List.mem_cons_of_mem _ h) (.cons (.int _ _) .nil)))⟩)
theorem rel_test {w : World} {mean : ExcName → Option Value} {mg mb : Str → Option Value} {lam : Addr} {ns : List Int} {news src : List (Addr × Obj)} {v : Value} {d : Dat} {l : Int}
    (hLam : LamOk w mean mg mb lam ns news) (hsrc : ∀ p ∈ src, p ∈ news) (hv : DatIn src v (Op.test d l).dat) (hl0 : 0 ≤ l) (hl1 : l < ns.length) :
    Calls w mean mg mb 20 200 news 54 [v, .ref lam] (RelPost news src ((Op.test d l).re (ahd ns)).dat) := by
  cases hv with
  | tuple hm hall =>
  rename_i ta vs n
  cases hall with
  | cons h0 hall =>
  cases hall with
  | cons h1 hall =>
  cases hall with
  | cons h2 hall =>
  cases hall
  cases h0
  cases h2
  have hm0 := hm; replace hm := hsrc _ hm
  obtain ⟨lc, lod, lfd, lsl, hfn⟩ := hLam.fn
  intro dp un gd cn cs a ccd cl outer A₀ base h₀ L m s Q E B F X N T hk hd hu hret
  walk_at "M.enterC"
  refine noE ?_
  k_steps
  all_goals first
  | (exfalso; walk_at "om")
  | (refine hret (.ref _) (_ :: news) _ _ (by assumption) (news_sub (by assumption) (sub_top (by walk_at "M.sub"))) ⟨[_], rfl, fresh_one (by walk_at "M.lt"), .tuple List.mem_cons_self (.cons (.str _ _) (.cons (h1.mono fun _ h => List.mem_cons_of_mem _ h) (.cons (.int _ _) .nil)))⟩)
theorem rel_jump {w : World} {mean : ExcName → Option Value} {mg mb : Str → Option Value} {lam : Addr} {ns : List Int} {news src : List (Addr × Obj)} {v : Value} {l : Int}
    (hLam : LamOk w mean mg mb lam ns news) (hsrc : ∀ p ∈ src, p ∈ news) (hv : DatIn src v (Op.jump l).dat) (hl0 : 0 ≤ l) (hl1 : l < ns.length) :
    Calls w mean mg mb 20 200 news 54 [v, .ref lam] (RelPost news src ((Op.jump l).re (ahd ns)).dat) := by
  cases hv with
  | tuple hm hall =>
  rename_i ta vs n
  cases hall with
  | cons h0 hall =>
  cases hall with
  | cons h2 hall =>
  cases hall
  cases h0
  cases h2
  have hm0 := hm; replace hm := hsrc _ hm
  obtain ⟨lc, lod, lfd, lsl, hfn⟩ := hLam.fn
  intro dp un gd cn cs a ccd cl outer A₀ base h₀ L m s Q E B F X N T hk hd hu hret
  walk_at "M.enterC"
  refine noE ?_
  k_steps
  all_goals first
  | (exfalso; walk_at "om")
  | (refine hret (.ref _) (_ :: news) _ _ (by assumption) (news_sub (by assumption) (sub_top (by walk_at "M.sub"))) ⟨[_], rfl, fresh_one (by walk_at "M.lt"), .tuple List.mem_cons_self (.cons (.str _ _) (.cons (.int _ _) .nil))⟩)
theorem rel_push {w : World} {mean : ExcName → Option Value} {mg mb : Str → Option Value} {lam : Addr} {ns : List Int} {news src : List (Addr × Obj)} {v : Value} {d : Dat}
    (hLam : LamOk w mean mg mb lam ns news) (hsrc : ∀ p ∈ src, p ∈ news) (hv : DatIn src v (Op.push d).dat) :
    Calls w mean mg mb 20 200 news 54 [v, .ref lam] (RelPost news src ((Op.push d).re (ahd ns)).dat) := by
  cases hv with
  | tuple hm hall =>
  rename_i ta vs n
  cases hall with
  | cons h0 hall =>
  cases hall with
  | cons h1 hall =>
  cases hall with
  | cons h2 hall =>
  cases hall
  cases h0
  cases h2
  have hm0 := hm; replace hm := hsrc _ hm
  obtain ⟨lc, lod, lfd, lsl, hfn⟩ := hLam.fn
  intro dp un gd cn cs a ccd cl outer A₀ base h₀ L m s Q E B F X N T hk hd hu hret
  walk_at "M.enterC"
  refine noE ?_
  k_steps
  all_goals first
  | (exfalso; walk_at "om")
  | (refine hret (.ref _) news _ _ (by assumption) (news_sub (by assumption) (by walk_at "M.sub")) ⟨[], rfl, (fun _ h => nomatch h), .tuple hm0 (.cons (.str _ _) (.cons h1 (.cons (.int _ _) .nil)))⟩)
theorem rel_deed {w : World} {mean : ExcName → Option Value} {mg mb : Str → Option Value} {lam : Addr} {ns : List Int} {news src : List (Addr × Obj)} {v : Value} {d : Dat}
    (hLam : LamOk w mean mg mb lam ns news) (hsrc : ∀ p ∈ src, p ∈ news) (hv : DatIn src v (Op.deed d).dat) :
    Calls w mean mg mb 20 200 news 54 [v, .ref lam] (RelPost news src ((Op.deed d).re (ahd ns)).dat) := by
  cases hv with
  | tuple hm hall =>
  rename_i ta vs n
  cases hall with
  | cons h0 hall =>
  cases hall with
  | cons h1 hall =>
  cases hall
  cases h0
  have hm0 := hm; replace hm := hsrc _ hm
  obtain ⟨lc, lod, lfd, lsl, hfn⟩ := hLam.fn
  intro dp un gd cn cs a ccd cl outer A₀ base h₀ L m s Q E B F X N T hk hd hu hret
  walk_at "M.enterC"
  refine noE ?_
  k_steps
  all_goals first
  | (exfalso; walk_at "om")
  | (refine hret (.ref _) news _ _ (by assumption) (news_sub (by assumption) (by walk_at "M.sub")) ⟨[], rfl, (fun _ h => nomatch h), .tuple hm0 (.cons (.str _ _) (.cons h1 .nil))⟩)
theorem rel_stop {w : World} {mean : ExcName → Option Value} {mg mb : Str → Option Value} {lam : Addr} {ns : List Int} {news src : List (Addr × Obj)} {v : Value} {d : Dat}
    (hLam : LamOk w mean mg mb lam ns news) (hsrc : ∀ p ∈ src, p ∈ news) (hv : DatIn src v (Op.stop d).dat) :
    Calls w mean mg mb 20 200 news 54 [v, .ref lam] (RelPost news src ((Op.stop d).re (ahd ns)).dat) := by
  cases hv with
  | tuple hm hall =>
  rename_i ta vs n
  cases hall with
  | cons h0 hall =>
  cases hall with
  | cons h1 hall =>
  cases hall
  cases h0
  have hm0 := hm; replace hm := hsrc _ hm
  obtain ⟨lc, lod, lfd, lsl, hfn⟩ := hLam.fn
  intro dp un gd cn cs a ccd cl outer A₀ base h₀ L m s Q E B F X N T hk hd hu hret
  walk_at "M.enterC"
  refine noE ?_
  k_steps
  all_goals first
  | (exfalso; walk_at "om")
  | (refine hret (.ref _) news _ _ (by assumption) (news_sub (by assumption) (by walk_at "M.sub")) ⟨[], rfl, (fun _ h => nomatch h), .tuple hm0 (.cons (.str _ _) (.cons h1 .nil))⟩)
end S_P3
section S_P4
local macro_rules | `(tactic| walk_at "call ref") => `(tactic| (k_here; (with_reducible rename LamOk _ _ _ _ _ _ _ => hLam); k_dflt (refine Calls.use (hLam.ok _ ?hsub _ _ ?h1 ?h2) (by assumption) (by assumption) (by assumption) (by assumption) (fun _ h => h) (by assumption) (by first | assumption | rfl) (by ktr_room) (by ktr_units) ?_; (case hsub => (intro p hp; repeat (first | exact hp | refine List.Mem.tail _ ?_))); (case h1 => first | assumption | omega); (case h2 => first | assumption | omega)); intro r' nw' h' tk' F' N' hP'; obtain ⟨⟨t9', hr9'⟩, hn9'⟩ := hP'; subst hr9' hn9'))
theorem fresh_two {a b : Addr} {o o' : Obj} {news : List (Addr × Obj)} (h : AllLt a news) (h' : AllLt b news) : Fresh [(a, o), (b, o')] news := by
  intro p hp q hq
  rcases List.mem_cons.mp hp with rfl | hp
  · exact Nat.ne_of_lt (allLt_mem h q hq)
  · rcases List.mem_cons.mp hp with rfl | hp
    · exact Nat.ne_of_lt (allLt_mem h' q hq)
    · cases hp
theorem tup_fix {a : Addr} {its : Array Value} {n : Nat} {news : List (Addr × Obj)} (_hm : (a, ({ cls := .type "tuple", data := .seq its n } : Obj)) ∈ news) (h : its.size ≤ sizeLine) : its.size ≤ sizeLine := h
theorem rel_choose {w : World} {mean : ExcName → Option Value} {mg mb : Str → Option Value} {lam : Addr} {ns : List Int} {news src : List (Addr × Obj)} {v : Value} {i j : Int}
    (hLam : LamOk w mean mg mb lam ns news) (hsrc : ∀ p ∈ src, p ∈ news) (hv : DatIn src v (Op.choose i j).dat) (hi0 : 0 ≤ i) (hi1 : i < ns.length) (hj0 : 0 ≤ j) (hj1 : j < ns.length) :
    Calls w mean mg mb 20 200 news 54 [v, .ref lam] (RelPost news src ((Op.choose i j).re (ahd ns)).dat) := by
  cases hv with
  | tuple hm hall =>
  rename_i ta vs n
  cases hall with
  | cons h0 hall =>
  cases hall with
  | cons h1 hall =>
  cases hall
  cases h0
  cases h1 with
  | tuple hm2 hall =>
  rename_i tb vs2 n2
  cases hall with
  | cons h1 hall =>
  cases hall with
  | cons h2 hall =>
  cases hall
  cases h1
  cases h2
  replace hm := hsrc _ hm; replace hm2 := hsrc _ hm2
  obtain ⟨lc, lod, lfd, lsl, hfn⟩ := hLam.fn
  intro dp un gd cn cs a ccd cl outer A₀ base h₀ L m s Q E B F X N T hk hd hu hret
  walk_at "M.enterC"
  refine noE ?_
  k_steps
  refine ⟨?_⟩
  try refine settle (g0 := s.gens) (d0 := s.drawn) (o0 := s.os) rfl rfl rfl fun tk8 => ?_
  k_dflt (refine' comp_tup ?F ?N ?hm ?c1 ?c2 ?c3 ?c4 ?c5 ?c6 ?sz ?_; (case F => k_asm); (case N => k_asm); (case hm => exact List.mem_cons_of_mem _ hm2); (case c1 => with_unfolding_all rfl); (case c2 => decide); (case c3 => rfl); (case c4 => decide); (case c5 => rfl); (case c6 => rfl); (case sz => exact Nat.le_of_ble_eq_true rfl))
  k_steps
  refine ⟨⟨by first | exact rfl | fail "A", by assumption, by assumption, by first | k_mem | fail "B", fun g => ?_⟩⟩
  refine CompRest.succ ?_
  intro v I oI C oC D m2 h2 tk2 E2 hP hns hx hF hN off ne
  obtain rfl : _ = v := Option.some.inj hP
  k_steps
  refine CompEnd.intro (by assumption) (by assumption) _ (fun _ h => h) off (List.mem_cons_of_mem _ hm2) ?_
  clear off ne hx hns hN hF hP
  refine CompRest.succ ?_
  intro v I oI C oC D m2 h2 tk2 E2 hP hns hx hF hN off ne
  obtain rfl : _ = v := Option.some.inj hP
  k_steps
  refine CompEnd.intro (by assumption) (by assumption) _ (fun _ h => h) off (List.mem_cons_of_mem _ hm2) ?_
  clear off ne hx hns hN hF hP
  refine CompRest.zero ?_
  intro D3 h3 tk3 F3' N3' off3'
  k_steps
  refine hret (.ref _) (_ :: _ :: news) _ _ (by assumption) (news_sub (by assumption) (sub_top (sub_top (by walk_at "M.sub")))) ⟨[_, _], rfl, fresh_two (by walk_at "M.lt") (by walk_at "M.lt"), .tuple List.mem_cons_self (.cons (.str _ _) (.cons (.tuple (List.mem_cons_of_mem _ List.mem_cons_self) (.cons (.int _ _) (.cons (.int _ _) .nil))) .nil))⟩
theorem rel_spec {w : World} {mean : ExcName → Option Value} {mg mb : Str → Option Value} {lam : Addr} {ns : List Int} {news src : List (Addr × Obj)} {v : Value} {o : Op}
    (hLam : LamOk w mean mg mb lam ns news) (hsrc : ∀ p ∈ src, p ∈ news) (hv : DatIn src v o.dat) (ho : o ≠ .non) (hl : ∀ l ∈ o.labels, 0 ≤ l ∧ l < (ns.length : Int)) :
    Calls w mean mg mb 20 200 news 54 [v, .ref lam] (RelPost news src (o.re (ahd ns)).dat) := by
  cases o with
  | non => exact absurd rfl ho
  | jump l => exact rel_jump hLam hsrc hv (hl l (by simp [Op.labels])).1 (hl l (by simp [Op.labels])).2
  | put d l => exact rel_put hLam hsrc hv (hl l (by simp [Op.labels])).1 (hl l (by simp [Op.labels])).2
  | test d l => exact rel_test hLam hsrc hv (hl l (by simp [Op.labels])).1 (hl l (by simp [Op.labels])).2
  | choose i j => exact rel_choose hLam hsrc hv (hl i (by simp [Op.labels])).1 (hl i (by simp [Op.labels])).2 (hl j (by simp [Op.labels])).1 (hl j (by simp [Op.labels])).2
  | push d => exact rel_push hLam hsrc hv
  | deed d => exact rel_deed hLam hsrc hv
  | stop d => exact rel_stop hLam hsrc hv
end S_P4
section S_P5
local macro_rules | `(tactic| walk_at "eval Lambda") => `(tactic| refine Halt.out ?_)
local macro_rules | `(tactic| walk_at "call ref") => `(tactic| refine Halt.out ?_)
local macro_rules | `(tactic| walk_at "compareOp NotIn") => `(tactic| (k_here; k_dflt (refine' kqd_notIn ?N ?a rfl rfl ?D ?sa (DatIn.none (news := [])) (by intro p hp; cases hp) ?ok rfl ?room ?_; (case N => k_asm); (case a => k_mem); (case D => assumption); (case ok => assumption); (case sa => walk_at "M.sub"); (case room => ktr_units)); (first | rw [decide_eq_true (by assumption)] | rw [decide_eq_false (by assumption)])))
noncomputable def cnt (os : List Op) : Int := (os.filter fun o => match o with | .non => false | _ => true).length
noncomputable def aheads (os : List Op) (i : Nat) : List Int := (List.range i).map fun j => cnt (os.take j)
theorem dat_cases {news : List (Addr × Obj)} {v : Value} {o : Op} (h : DatIn news v o.dat) : (v = .none ∧ o = .non) ∨ ∃ a, v = .ref a ∧ o ≠ .non := by
  cases o
  case non => cases h; exact .inl ⟨rfl, rfl⟩
  all_goals (cases h; exact .inr ⟨_, rfl, by simp⟩)
theorem cnt_non {os : List Op} {i : Nat} (h : os[i]? = some .non) : cnt (os.take (i + 1)) = cnt (os.take i) := by
  unfold cnt
  rw [List.take_add_one, h, Option.toList_some, List.filter_append]
  simp
theorem cnt_op {os : List Op} {i : Nat} {o : Op} (h : os[i]? = some o) (ho : o ≠ .non) : cnt (os.take (i + 1)) = cnt (os.take i) + 1 := by
  unfold cnt
  rw [List.take_add_one, h, Option.toList_some, List.filter_append]
  cases o <;> simp_all
theorem aheads_snoc (os : List Op) (i : Nat) : aheads os (i + 1) = aheads os i ++ [cnt (os.take i)] := by
  unfold aheads
  rw [List.range_succ, List.map_append]; rfl
theorem aheads_len (os : List Op) (i : Nat) : (aheads os i).length = i := by simp [aheads]
theorem ds_at {news : List (Addr × Obj)} {vs : List Value} {os : List Op} {i : Nat} {v : Value} (hD : DatAll news vs (os.map Op.dat)) (hv : vs[i]? = some v) : ∃ o, os[i]? = some o ∧ DatIn news v o.dat := by
  have hi : i < (os.map Op.dat).length := by
    rw [← hD.length]
    exact (List.getElem?_eq_some_iff.mp hv).1
  obtain ⟨v', hv', hd⟩ := hD.get hi
  rw [hv] at hv'
  obtain rfl := Option.some.inj hv'
  rw [List.length_map] at hi
  exact ⟨os[i], List.getElem?_eq_getElem hi, by simpa using hd⟩
structure PS where
  k : Int
  t : Tok
  avs : List Value
  n : Nat
theorem ints_snoc {vs : List Value} {ns : List Int} {n : Int} {t : Tok} (h : IntsAre vs ns) : IntsAre (vs ++ [.int n t]) (ns ++ [n]) := by
  induction h with
  | nil => exact .cons _ _ .nil
  | cons _ _ _ ih => exact .cons _ _ ih
noncomputable abbrev lamQ : Str := (Str.ofString "pressed" ++ ".<locals>.") ++ "<lambda>"
noncomputable def keptOps (os : List Op) : List Op := os.filter fun o => match o with | .non => false | _ => true
noncomputable def ahdAll (os : List Op) : List Int := aheads os os.length ++ [cnt os]
noncomputable def pressedOps (os : List Op) : List Op := (keptOps os).map (Op.re (ahd (ahdAll os)))
theorem off1_mem {D : Addr} {l : List (Addr × Obj)} (h : Off1 D l) : ∀ p ∈ l, p.1 ≠ D := by
  induction l with
  | nil => intro p hp; cases hp
  | cons q r ih =>
    intro p hp
    rcases List.mem_cons.mp hp with e | hp
    · rw [e]; exact h.1
    · exact ih h.2 p hp
theorem ints_at {vs : List Value} {ns : List Int} {i : Nat} {v : Value} (h : IntsAre vs ns) (hv : vs[i]? = some v) : ∃ n t, v = .int n t ∧ ns[i]? = some n := by
  induction h generalizing i with
  | nil => simp at hv
  | cons n t _ ih =>
    cases i with
    | zero => simp at hv; exact ⟨n, t, hv.symm, rfl⟩
    | succ i => simp at hv; simpa using ih hv
theorem kept_non {os : List Op} {i : Nat} (h : os[i]? = some .non) : keptOps (os.take (i + 1)) = keptOps (os.take i) := by
  unfold keptOps
  rw [List.take_add_one, h, Option.toList_some, List.filter_append]
  simp
theorem kept_op {os : List Op} {i : Nat} {o : Op} (h : os[i]? = some o) (ho : o ≠ .non) : keptOps (os.take (i + 1)) = keptOps (os.take i) ++ [o] := by
  unfold keptOps
  rw [List.take_add_one, h, Option.toList_some, List.filter_append]
  cases o <;> simp_all
noncomputable def hasNon (os : List Op) : Bool := os.any fun o => match o with | .non => true | _ => false
theorem hasNon_iff (os : List Op) : Dat.none ∈ os.map Op.dat ↔ hasNon os = true := by
  unfold hasNon
  rw [List.any_eq_true, List.mem_map]
  constructor
  · rintro ⟨o, ho, e⟩; exact ⟨o, ho, by cases o <;> first | rfl | cases e⟩
  · rintro ⟨o, ho, e⟩; exact ⟨o, ho, by cases o <;> first | rfl | cases e⟩
noncomputable def pressedD (os : List Op) : List Op := if hasNon os = true then pressedOps os else os
noncomputable def pressedB (os : List Op) (bns : List Int) : List Int := if hasNon os = true then bns.map (ahd (ahdAll os)) else bns
noncomputable def tupO (vs : Array Value) : Obj := { cls := .type "tuple", data := .seq vs }
noncomputable def PressPost (os : List Op) (bns : List Int) (rest : List (Addr × Obj)) (r : Value) (news' : List (Addr × Obj)) : Prop :=
  ∃ tp dl dz ys zs kl kz add ps', r = .ref tp ∧ news' = add ++ (56, tabObj ps') :: rest ∧ Fresh add ((56, tabObj #[]) :: rest) ∧ TabSt lamQ ps' (add ++ rest) ∧ (tp, tupO #[.ref dl, .ref dz]) ∈ add ∧ (dl, listOf ys.toArray kl) ∈ add ++ rest ∧ (dz, listOf zs.toArray kz) ∈ add ++ rest ∧
    DatAll (add ++ rest) ys ((pressedD os).map Op.dat) ∧ IntsAre zs (pressedB os bns)
/-- between the turns of pressed's comprehension -/
noncomputable def PJ (os : List Op) (ns : List Int) (ps : Array Value) (others : List (Addr × Obj)) (i : Nat) (ys : List Value) (nw : List (Addr × Obj)) : Prop :=
  ∃ add ps', nw = add ++ (56, tabObj ps') :: others ∧ Fresh add ((56, tabObj ps) :: others) ∧ TabSt lamQ ps' (add ++ others) ∧ DatAll (add ++ others) ys ((keptOps (os.take i)).map fun o => (o.re (ahd ns)).dat)
theorem pressed_non {w : World} {mean : ExcName → Option Value} {mg mb : Str → Option Value} {la lb : Addr} {vs bvs : List Value} {n nb : Nat} {os : List Op} {bns : List Int} {ps : Array Value} {rest : List (Addr × Obj)}
    (h1 : (la, listOf vs.toArray n) ∈ rest) (hD : DatAll rest vs (os.map Op.dat)) (hok : ∀ d ∈ os.map Op.dat, kqdOk 8 d = true) (hnon : Dat.none ∈ os.map Op.dat) (hlen : os.length ≤ 60)
    (hlab : ∀ o ∈ os, ∀ l ∈ o.labels, 0 ≤ l ∧ l ≤ os.length) (h2 : (lb, listOf bvs.toArray nb) ∈ rest) (hB : IntsAre bvs bns ∧ bns.length ≤ 60) (hbb : ∀ b ∈ bns, 0 ≤ b ∧ b ≤ os.length) (h56 : ∀ p ∈ rest, p.1 ≠ 56) (hT : TabSt lamQ ps rest) :
    Calls w mean mg mb 40 400 ((56, tabObj ps) :: rest) 59 [.ref la, .ref lb] (PressPost os bns rest) := by
  intro dp un gd cn cs a ccd cl outer A₀ base h₀ L m s Q E B F X N T hk hd hu hret
  walk_at "M.enterC"
  refine noE ?_
  k_steps
  rotate_left
  · exfalso; simp_all
  rename_i g1 L1 h1' tk1 FG1 B1 X1 T1 l1 o0 d1 hdc al h2' l2 h3' o1 d2 h4' F1 N1
  refine ⟨?_⟩
  try refine settle (g0 := s.gens) (d0 := s.drawn) (o0 := s.os) rfl rfl rfl fun tk8 => ?_
  refine for_led (σ := PS) (fun m c y => if y = Str.ofString "many" then some (.int c.k c.t) else m y) (fun c => [(al, listOf c.avs.toArray c.n)]) (fun _ => (L1 + 1, o1) :: (56, tabObj ps) :: rest) [al]
    (fun i c => c.k = cnt (os.take i) ∧ IntsAre c.avs (aheads os i)) ⟨0, ?t0, [], 0⟩ rfl F1 N1 (List.mem_cons_of_mem _ (List.mem_cons_of_mem _ h1)) (fun _ h => h) (fun _ => rfl) ?hoff ?hm ?h0 ?turn ?done
  case hm =>
    intro y hy
    by_cases h : y = Str.ofString "many"
    · subst h; exact rfl
    · exact (if_neg h).symm
  case hoff =>
    intro p hp a ha
    rw [List.mem_singleton.mp ha]
    rcases List.mem_cons.mp hp with rfl | hp
    · exact Nat.ne_of_lt l2.1
    · exact allLt_ne (l := (56, tabObj ps) :: rest) l2.2 p hp
  case h0 => exact ⟨rfl, .nil⟩
  case turn =>
    intro i v c rst h tk hv hs hr1 hr2 hr3 F' N' W8 hW8
    obtain ⟨hk1, hk2⟩ := hs
    have hoff1 : ∀ p ∈ rst, p.1 ≠ al := fun p hp => hr3 p hp al List.mem_cons_self
    have hmem : (L1 + 1, o1) ∈ rst := hr1 _ List.mem_cons_self
    obtain ⟨o, ho, hvo⟩ := ds_at hD hv
    have hsz : c.avs.length ≤ 1000 := by
      rw [hk2.length, aheads_len]
      have := (List.getElem?_eq_some_iff.mp ho).1
      walk_at "om"
    clear F1
    dsimp only [List.cons_append, List.nil_append] at N'
    rcases dat_cases hvo with ⟨rfl, rfl⟩ | ⟨av, rfl, hne⟩
    · k_steps
      (with_reducible rename News _ _ _ _ => NN)
      rw [List.push_toArray] at NN
      refine hW8 _ _ ?_
      refine TPost.fin ⟨c.k, c.t, c.avs ++ [Value.int c.k c.t], c.n + 1⟩ [] (by assumption) NN (fun _ h => h) rfl (fun _ h => nomatch h) ?_ ⟨?_, ?_⟩
      · intro y hy
        exact if_neg hy
      · exact hk1.trans (cnt_non ho).symm
      · rw [aheads_snoc, ← hk1]; exact ints_snoc hk2
    · k_steps
      (with_reducible rename News _ _ _ _ => NN)
      rw [List.push_toArray] at NN
      refine hW8 _ _ ?_
      refine TPost.fin ⟨c.k + 1, ?t1, c.avs ++ [Value.int c.k c.t], c.n + 1⟩ [] (by assumption) NN (fun _ h => h) rfl (fun _ h => nomatch h) ?gm ⟨?gk, ?gi⟩
      case gm =>
        intro y hy
        by_cases h : y = Str.ofString "many"
        · subst h; exact rfl
        · simp only [if_neg h, if_neg hy]
      case gk => rw [cnt_op ho hne, hk1]
      case gi => rw [aheads_snoc, ← hk1]; exact ints_snoc hk2
  case done =>
    intro c u h tk hs _ hr3 F' N'
    obtain ⟨hk1, hk2⟩ := hs
    have hvl : vs.length = os.length := by rw [hD.length, List.length_map]
    have hsz : c.avs.length ≤ 1000 := by
      rw [hk2.length, aheads_len]
      walk_at "om"
    have hoff1 : ∀ p ∈ (L1 + 1, o1) :: (56, tabObj ps) :: rest, p.1 ≠ al := fun p hp => hr3 p hp al List.mem_cons_self
    clear F1 N1
    dsimp only [List.cons_append, List.nil_append] at N'
    k_steps
    refine ⟨?_⟩
    try refine settle (g0 := s.gens) (d0 := s.drawn) (o0 := s.os) rfl rfl rfl fun tk8 => ?_
    have hA : IntsAre (c.avs ++ [Value.int c.k c.t]) (ahdAll os) := by
      have := ints_snoc (n := c.k) (t := c.t) hk2
      rw [hvl] at this
      rw [hk1, hvl, List.take_length] at this
      rw [hk1, hvl, List.take_length]
      exact this
    (with_reducible rename News _ _ _ _ => NN)
    rw [List.push_toArray] at NN
    k_dflt (refine LCt.Assign_ListComp_T (F₀ := by k_asm) (by rfl) (by with_unfolding_all rfl) (by with_unfolding_all rfl) (by decide) (by rfl) (by decide) (by rfl) (by rfl) (by rfl) ?_)
    walk1
    (with_reducible rename Fr _ _ _ _ => FF)
    generalize hav : c.avs ++ [Value.int c.k c.t] = avs at NN hA
    have NP : News g1 L1 _ ((56, tabObj ps) :: (al, listOf avs.toArray (c.n + 1)) :: (L1 + 1, o1) :: rest) := news_sub NN (by
      intro p hp; simp only [List.mem_cons] at hp ⊢; rcases hp with h | h | h | h <;> simp [h])
    have ho56 : ∀ p ∈ (al, listOf avs.toArray (c.n + 1)) :: (L1 + 1, o1) :: rest, p.1 ≠ 56 := by
      intro p hp
      rcases List.mem_cons.mp hp with rfl | hp
      · exact Nat.ne_of_gt l2.2.1
      · rcases List.mem_cons.mp hp with rfl | hp
        · have := l1 (56, tabObj ps) List.mem_cons_self
          exact Nat.ne_of_gt (Nat.lt_succ_of_lt this)
        · exact h56 p hp
    generalize hoth : (al, listOf avs.toArray (c.n + 1)) :: (L1 + 1, o1) :: rest = others at NP ho56
    have m1 : (al, listOf avs.toArray (c.n + 1)) ∈ others := by rw [← hoth]; simp
    have m2 : (L1 + 1, o1) ∈ others := by rw [← hoth]; simp
    have m3 : ∀ p ∈ rest, p ∈ others := by rw [← hoth]; intro p hp; simp [hp]
    refine CompSrcT.ledger rfl FF NP (List.mem_cons_of_mem _ (m3 _ h1)) (by rw [List.size_toArray, hvl]; exact Nat.le_trans hlen (Nat.le_of_ble_eq_true rfl)) ?_
    intro g2
    refine restT_inv vs.length (PJ os (ahdAll os) ps others) ?cturn ?cfin _ 0 [] _ (by simp) ?cj0
    case cj0 => exact ⟨[], ps, rfl, (fun _ h => nomatch h), hT.mono m3, .nil⟩
    case cturn =>
      rintro i ys nw hi ⟨add, ps', rfl, hf, hT', hys⟩ v I oI C oC D m₂ h3 tk3 E3 hP hns hx F3 N3 off3 ne3
      have hv : vs[i]? = some v := by simpa using hP
      obtain ⟨o, ho, hvo⟩ := ds_at hD hv
      clear NN NP FF
      have NQ : News g1 L1 h3 ((56, tabObj ps') :: (I, oI) :: (C, oC) :: (D, lst ys) :: (add ++ others)) := news_sub N3 (by
        intro p hp; simp only [List.mem_cons, List.mem_append] at hp ⊢; rcases hp with h | h | h | h | h | h <;> simp [h])
      clear N3
      rcases dat_cases hvo with ⟨rfl, rfl⟩ | ⟨av, rfl, hne⟩
      · k_steps
        refine CompEnd.intro (by assumption) NQ (add ++ (56, tabObj ps') :: others) ?_ off3 (.inr ⟨_, List.mem_append.mpr (.inr (List.mem_cons_of_mem _ (m3 _ h1))), rfl, _, rfl⟩) ⟨add, ps', rfl, hf, hT', by rw [kept_non ho]; exact hys⟩
        intro p hp; simp only [List.mem_cons, List.mem_append] at hp ⊢; rcases hp with h | h | h | h | h | h <;> simp [h]
      · k_steps
        refine ⟨?_⟩
        try refine settle (g0 := s.gens) (d0 := s.drawn) (o0 := s.os) rfl rfl rfl fun tk8 => ?_
        (with_reducible rename Fr _ _ _ _ => F4)
        (with_reducible rename News _ _ _ _ => N4)
        have o3 := off3.mem
        have h56' : ∀ p ∈ (I, oI) :: (C, oC) :: (D, lst ys) :: (add ++ others), p.1 ≠ 56 := by
          have h56o := o3 (56, tabObj ps') (List.mem_append.mpr (.inr List.mem_cons_self))
          intro p hp
          rcases List.mem_cons.mp hp with rfl | hp
          · exact Ne.symm h56o.1
          · rcases List.mem_cons.mp hp with rfl | hp
            · exact Ne.symm h56o.2.1
            · rcases List.mem_cons.mp hp with rfl | hp
              · exact Ne.symm h56o.2.2
              · rcases List.mem_append.mp hp with hp | hp
                · exact Ne.symm (hf p hp (56, tabObj ps) List.mem_cons_self)
                · exact ho56 p hp
        have t3 : ∀ p ∈ add ++ others, p ∈ (I, oI) :: (C, oC) :: (D, lst ys) :: (add ++ others) := fun p hp => by simp only [List.mem_cons]; exact .inr (.inr (.inr hp))
        refine lam_make (others := (I, oI) :: (C, oC) :: (D, lst ys) :: (add ++ others)) (told := add ++ others) (ns := ahdAll os) F4 N4 T1 X1 h56' hT' t3 rfl rfl (t3 _ (List.mem_append.mpr (.inr m2))) d2 (t3 _ (List.mem_append.mpr (.inr m1))) hA (by rw [ahdAll, List.length_append, aheads_len]; simp; walk_at "om") rfl rfl ?_
        intro f h5 tk5 addL psL F5 N5 hfrL hTL hLam
        clear F4 N4
        k_steps
        refine ⟨?_⟩
        try refine settle (g0 := s.gens) (d0 := s.drawn) (o0 := s.os) rfl rfl rfl fun tk8 => ?_
        refine Calls.use (rel_spec (src := rest) hLam ?hsrc hvo hne ?hlb) (by assumption) F5 X1 N5 (fun _ h => h) T1 rfl (by ktr_room) (by ktr_units) ?_
        case hsrc => exact fun p hp => List.mem_append.mpr (.inr (List.mem_cons_of_mem _ (t3 _ (List.mem_append.mpr (.inr (m3 p hp))))))
        case hlb =>
          intro l hl
          have := hlab o (List.mem_of_getElem? ho) l hl
          rw [ahdAll, List.length_append, aheads_len]
          simp only [List.length_cons, List.length_nil]
          walk_at "om"
        intro r nw' h6 tk6 F6 N6 hP6
        obtain ⟨add2, rfl, hfr2, hd2⟩ := hP6
        clear F5 N5
        k_steps
        refine CompEnd.intro (by assumption) N6 ((add2 ++ (addL ++ add)) ++ (56, tabObj psL) :: others) ?_ (Off3.of ?_) (.inr ⟨_, List.mem_append.mpr (.inr (List.mem_cons_of_mem _ (m3 _ h1))), rfl, _, rfl⟩) ⟨add2 ++ (addL ++ add), psL, rfl, ?_, ?_, ?_⟩
        · intro p hp; simp only [List.mem_cons, List.mem_append] at hp ⊢; rcases hp with h | h | h | ((h | h | h) | h | h) <;> simp [h]
        · intro p hp
          simp only [List.mem_cons, List.mem_append] at hp
          rcases hp with (h | h | h) | h | h
          · exact ⟨Ne.symm (hfr2 p h (I, oI) (by simp)), Ne.symm (hfr2 p h (C, oC) (by simp)), Ne.symm (hfr2 p h (D, lst ys) (by simp))⟩
          · exact ⟨Ne.symm (hfrL p h (I, oI) (by simp)), Ne.symm (hfrL p h (C, oC) (by simp)), Ne.symm (hfrL p h (D, lst ys) (by simp))⟩
          · exact o3 p (by simp [h])
          · rw [h]; exact o3 (56, tabObj ps') (by simp)
          · exact o3 p (by simp [h])
        · intro p hp q hq
          simp only [List.mem_append] at hp
          rcases List.mem_cons.mp hq with rfl | hq
          · rcases hp with h | h | h
            · exact hfr2 p h (56, tabObj psL) (by simp)
            · exact hfrL p h (56, tabObj ps') (by simp)
            · exact hf p h (56, tabObj ps) (by simp)
          · rcases hp with h | h | h
            · exact hfr2 p h q (by simp [hq])
            · exact hfrL p h q (by simp [hq])
            · exact hf p h q (by simp [hq])
        · exact TabSt.mono hTL (by intro p hp; simp only [List.mem_append] at hp ⊢; rcases hp with h | h | h <;> simp [h])
        · rw [kept_op ho hne, List.map_append]
          refine (hys.mono ?_).append (DatAll.one (hd2.mono ?_))
          · intro p hp; simp only [List.mem_append] at hp ⊢; rcases hp with h | h <;> simp [h]
          · intro p hp; simp only [List.mem_append] at hp ⊢; rcases hp with h | h
            · simp [h]
            · simp [m3 _ h]
    case cfin =>
      rintro ys nw ⟨add, ps', rfl, hf, hT', hys⟩ D h6 tk6 F6 N6 off6
      clear NN NP FF
      rw [hvl, List.take_length] at hys
      k_steps
      refine ⟨?_⟩
      try refine settle (g0 := s.gens) (d0 := s.drawn) (o0 := s.os) rfl rfl rfl fun tk8 => ?_
      k_dflt (refine LCg.ListComp_U (F₀ := by k_asm) (by with_unfolding_all rfl) (by decide) (by rfl) (by decide) (by rfl) ?_)
      walk1
      (with_reducible rename Fr _ _ _ _ => F7)
      (with_reducible rename News _ _ _ _ => N7)
      refine CompSrc.ledger rfl F7 N7 (List.mem_cons_of_mem _ (List.mem_append.mpr (.inr (List.mem_cons_of_mem _ (m3 _ h2))))) (by rw [List.size_toArray, hB.1.length]; exact Nat.le_trans hB.2 (Nat.le_of_ble_eq_true rfl)) ?_
      intro g7
      refine rest_inv bvs.length (fun i zs nw => nw = (D, lst ys) :: (add ++ (56, tabObj ps') :: others) ∧ IntsAre zs ((bns.take i).map (ahd (ahdAll os)))) ?bturn ?bfin _ 0 [] _ (by simp) ⟨rfl, .nil⟩
      case bturn =>
        rintro i zs nw hi ⟨rfl, hzs⟩ v I oI C oC D2 m₂ h8 tk8 E8 hP hns hx F8 N8 off8 ne8
        have hv : bvs[i]? = some v := by simpa using hP
        obtain ⟨b, t, rfl, hb⟩ := ints_at hB.1 hv
        have hb0 := (hbb b (List.mem_of_getElem? hb)).1
        have hb1 : b < ((ahdAll os).length : Int) := by
          have := (hbb b (List.mem_of_getElem? hb)).2
          rw [ahdAll, List.length_append, aheads_len]
          simp only [List.length_cons, List.length_nil]
          walk_at "om"
        have hmo : (L1 + 1, o1) ∈ (I, oI) :: (C, oC) :: (D2, lst zs) :: (D, lst ys) :: (add ++ (56, tabObj ps') :: others) := by simp [m2]
        have hmal : (al, listOf avs.toArray (c.n + 1)) ∈ (I, oI) :: (C, oC) :: (D2, lst zs) :: (D, lst ys) :: (add ++ (56, tabObj ps') :: others) := by simp [m1]
        clear F7 N7
        k_steps
        have hb2 : b < 2 ^ 63 := by
          have := (hbb b (List.mem_of_getElem? hb)).2
          walk_at "om"
        k_dflt (refine item_anyK (News.isList (by assumption) hmal) hA hb0 hb1 hb2 ?_ (by with_unfolding_all rfl))
        intro t2
        k_steps
        refine CompEnd.intro (by assumption) (by assumption) _ (fun _ h => h) off8 (.inr ⟨_, List.mem_cons_of_mem _ (List.mem_append.mpr (.inr (List.mem_cons_of_mem _ (m3 _ h2)))), rfl, _, rfl⟩) ⟨rfl, ?_⟩
        rw [List.take_add_one, hb, Option.toList_some, List.map_append]
        exact ints_snoc hzs
      case bfin =>
        rintro zs nw ⟨rfl, hzs⟩ D2 h8 tk8 F8 N8 off8
        clear F7 N7
        k_steps
        suffices key : ∀ (tp : Addr) (hh : Heap), News h₀ L hh ((tp, tupO #[.ref D, .ref D2]) :: (D2, lst zs) :: (D, lst ys) :: (add ++ (56, tabObj ps') :: others)) → (D2 < tp ∧ D < tp ∧ AllLt tp (add ++ (56, tabObj ps') :: others)) → Fr h₀ L hh m → Q (.ref tp) { s with heap := hh, toks := tk8 } from key _ _ (by assumption) (by assumption) (by assumption)
        intro tp hh N10 l9 F10
        rw [hB.1.length, List.take_length] at hzs
        refine hret (.ref tp) (((tp, tupO #[.ref D, .ref D2]) :: (D2, lst zs) :: (D, lst ys) :: (add ++ [(al, listOf avs.toArray (c.n + 1)), (L1 + 1, o1)])) ++ (56, tabObj ps') :: rest) _ _ (by assumption) (news_sub N10 ?_) ⟨tp, D, D2, ys, zs, _, _, _, ps', rfl, rfl, ?_, ?_, List.mem_cons_self, List.mem_append.mpr (.inl (List.mem_cons_of_mem _ (List.mem_cons_of_mem _ List.mem_cons_self))), List.mem_append.mpr (.inl (List.mem_cons_of_mem _ List.mem_cons_self)), ?_, ?_⟩
        · rw [← hoth]
          intro p hp
          simp only [List.cons_append, List.mem_cons, List.mem_append, List.nil_append, List.append_assoc, List.not_mem_nil, or_false] at hp ⊢
          rcases hp with h | h | h | h | h | h | h | h <;> simp [h, tupO]
        · have hq : ∀ q ∈ (56, tabObj #[]) :: rest, ∃ q' ∈ (56, tabObj ps') :: others, q'.1 = q.1 := by
            intro q hq
            rcases List.mem_cons.mp hq with rfl | hq
            · exact ⟨_, List.mem_cons_self, rfl⟩
            · exact ⟨q, List.mem_cons_of_mem _ (m3 _ hq), rfl⟩
          have hq2 : ∀ q ∈ (56, tabObj #[]) :: rest, ∃ q' ∈ (56, tabObj ps) :: others, q'.1 = q.1 := by
            intro q hq
            rcases List.mem_cons.mp hq with rfl | hq
            · exact ⟨_, List.mem_cons_self, rfl⟩
            · exact ⟨q, List.mem_cons_of_mem _ (m3 _ hq), rfl⟩
          intro p hp q hq'
          obtain ⟨q1, h11, h12⟩ := hq q hq'
          simp only [List.mem_cons, List.mem_append, List.not_mem_nil, or_false] at hp
          rcases hp with rfl | rfl | rfl | h | rfl | rfl
          · rw [← h12]; exact Nat.ne_of_lt (allLt_mem l9.2.2 q1 (List.mem_append.mpr (.inr h11)))
          · rw [← h12]; exact off1_mem off8 q1 (List.mem_cons_of_mem _ (List.mem_append.mpr (.inr h11)))
          · rw [← h12]; exact off1_mem off6 q1 (List.mem_append.mpr (.inr h11))
          · obtain ⟨q2, h21, h22⟩ := hq2 q hq'
            rw [← h22]; exact hf p h q2 h21
          · rcases List.mem_cons.mp hq' with rfl | hq'
            · exact Nat.ne_of_lt l2.2.1
            · exact Nat.ne_of_lt (allLt_mem l2.2.2 q hq')
          · rcases List.mem_cons.mp hq' with rfl | hq'
            · exact Nat.ne_of_lt (Nat.lt_succ_of_lt (l1 (56, tabObj ps) List.mem_cons_self))
            · exact Nat.ne_of_lt (Nat.lt_succ_of_lt (l1 q (List.mem_cons_of_mem _ hq')))
        · refine hT'.mono ?_
          rw [← hoth]
          intro p hp
          simp only [List.cons_append, List.mem_cons, List.mem_append, List.nil_append, List.append_assoc, List.not_mem_nil, or_false] at hp ⊢
          rcases hp with h | h | h | h <;> simp [h]
        · rw [pressedD, if_pos ((hasNon_iff os).mp hnon), pressedOps, List.map_map]
          refine DatAll.mono ?_ hys
          rw [← hoth]
          intro p hp
          simp only [List.cons_append, List.mem_cons, List.mem_append, List.nil_append, List.append_assoc, List.not_mem_nil, or_false] at hp ⊢
          rcases hp with h | h | h | h <;> simp [h]
        · rw [pressedB, if_pos ((hasNon_iff os).mp hnon)]
          exact hzs
theorem pressed_same {w : World} {mean : ExcName → Option Value} {mg mb : Str → Option Value} {la lb : Addr} {vs : List Value} {n : Nat} {ds : List Dat} {news : List (Addr × Obj)}
    (h1 : (la, listOf vs.toArray n) ∈ news) (hD : DatAll news vs ds) (hok : ∀ d ∈ ds, kqdOk 8 d = true) (hnon : ¬ Dat.none ∈ ds) :
    Calls w mean mg mb 40 400 news 59 [.ref la, .ref lb] (fun r news' => ∃ tp, r = .ref tp ∧ news' = (tp, tupO #[.ref la, .ref lb]) :: news ∧ ∀ q ∈ news, @Ne Nat q.1 tp) := by
  intro dp un gd cn cs a ccd cl outer A₀ base h₀ L m s Q E B F X N T hk hd hu hret
  walk_at "M.enterC"
  refine noE ?_
  k_steps
  all_goals first
  | (exfalso; simp_all; done)
  | exact hret (.ref _) (_ :: news) _ _ (by assumption) (news_sub (by assumption) (sub_top (by walk_at "M.sub"))) ⟨_, rfl, rfl, allLt_ne (by walk_at "M.lt")⟩
theorem pressed_spec {w : World} {mean : ExcName → Option Value} {mg mb : Str → Option Value} {la lb : Addr} {vs bvs : List Value} {n nb : Nat} {os : List Op} {bns : List Int} {ps : Array Value} {rest : List (Addr × Obj)}
    (h1 : (la, listOf vs.toArray n) ∈ rest) (hD : DatAll rest vs (os.map Op.dat)) (hok : ∀ d ∈ os.map Op.dat, kqdOk 8 d = true) (hlen : os.length ≤ 60)
    (hlab : ∀ o ∈ os, ∀ l ∈ o.labels, 0 ≤ l ∧ l ≤ os.length) (h2 : (lb, listOf bvs.toArray nb) ∈ rest) (hB : IntsAre bvs bns ∧ bns.length ≤ 60) (hbb : ∀ b ∈ bns, 0 ≤ b ∧ b ≤ os.length) (h56 : ∀ p ∈ rest, p.1 ≠ 56) (hT : TabSt lamQ ps rest) :
    Calls w mean mg mb 40 400 ((56, tabObj ps) :: rest) 59 [.ref la, .ref lb] (PressPost os bns rest) := by
  by_cases hnon : Dat.none ∈ os.map Op.dat
  · exact pressed_non h1 hD hok hnon hlen hlab h2 hB hbb h56 hT
  · intro dp un gd cn cs a ccd cl outer A₀ base h₀ L m s Q E B F X N T hk hd hu hret
    refine pressed_same (n := n) (List.mem_cons_of_mem _ h1) (hD.mono fun _ h => List.mem_cons_of_mem _ h) hok hnon dp un gd cn cs a ccd cl outer A₀ base h₀ L m s Q E B F X N T hk hd hu fun r news' h' tk' F' N' hP => hret r _ h' tk' F' N' ?_
    obtain ⟨tp, rfl, rfl, hne⟩ := hP
    have hn : ¬ hasNon os = true := fun e => hnon ((hasNon_iff os).mpr e)
    refine ⟨tp, la, lb, vs, bvs, n, nb, [_], ps, rfl, rfl, ?_, hT.mono fun _ h => List.mem_cons_of_mem _ h, List.mem_cons_self, List.mem_cons_of_mem _ h1, List.mem_cons_of_mem _ h2, ?_, ?_⟩
    · intro p hp q hq
      rw [List.mem_singleton.mp hp]
      rcases List.mem_cons.mp hq with rfl | hq
      · exact hne (56, tabObj ps) List.mem_cons_self
      · exact hne q (List.mem_cons_of_mem _ hq)
    · rw [pressedD, if_neg hn]; exact hD.mono fun _ h => List.mem_cons_of_mem _ h
    · rw [pressedB, if_neg hn]; exact hB.1
end S_P5
section S_P6
local macro_rules | `(tactic| walk_at "eval Lambda") => `(tactic| refine Halt.out ?_)
theorem lt_neK2 {d : Addr} {l : List (Addr × Obj)} {k j : Nat} (h : ∀ p ∈ l, p.1 < d) : ∀ p ∈ l, p.1 ≠ d + k + j := fun p hp => by have := h p hp; exact Nat.ne_of_lt (by show @LT.lt Nat _ p.1 (d + k + j); have : @LT.lt Nat _ p.1 d := h p hp; walk_at "om")
theorem lt_neK3 {d : Addr} {l : List (Addr × Obj)} {k j i : Nat} (h : ∀ p ∈ l, p.1 < d) : ∀ p ∈ l, p.1 ≠ d + k + j + i := fun p hp => by have := h p hp; exact Nat.ne_of_lt (by show @LT.lt Nat _ p.1 (d + k + j + i); have : @LT.lt Nat _ p.1 d := h p hp; walk_at "om")
theorem cnt_le (os : List Op) (k : Nat) : cnt (os.take k) ≤ os.length := by
  unfold cnt
  exact Int.ofNat_le.mpr (Nat.le_trans (List.length_filter_le _ _) (List.length_take_le' _ _))
theorem int_ex {i j : Int} {t : Tok} (h : i = j) : ∃ t', Value.int i t = Value.int j t' := ⟨t, by rw [h]⟩
theorem getD_range {f : Nat → Int} {n i : Nat} (h : i < n) : ((List.range n).map f).getD i 0 = f i := by
  rw [List.getD_eq_getElem?_getD, List.getElem?_map, List.getElem?_range h]; rfl
theorem ahd_at (os : List Op) {l : Int} (h0 : 0 ≤ l) (h1 : l ≤ os.length) : ahd (ahdAll os) l = cnt (os.take l.toNat) := by
  unfold ahd ahdAll
  by_cases h : l.toNat < os.length
  · rw [List.getD_eq_getElem?_getD, List.getElem?_append_left (by rw [aheads_len]; exact h), ← List.getD_eq_getElem?_getD, aheads, getD_range h]
  · have e : l.toNat = os.length := by walk_at "om"
    rw [e, List.getD_eq_getElem?_getD, List.getElem?_append_right (by rw [aheads_len]; walk_at "om"), aheads_len, Nat.sub_self, List.take_length]
    rfl
structure PlS where
  k : Int
  t : Tok
theorem place_spec {w : World} {mean : ExcName → Option Value} {mg mb : Str → Option Value} {la : Addr} {vs : List Value} {n : Nat} {os : List Op} {news : List (Addr × Obj)} {pl : Int} {tpl : Tok}
    (h1 : (la, listOf vs.toArray n) ∈ news) (hD : DatAll news vs (os.map Op.dat)) (hlen : os.length ≤ 60) (hp0 : 0 ≤ pl) (hp1 : pl ≤ os.length) :
    Calls w mean mg mb 20 200 news 418 [.ref la, .int pl tpl] (fun r news' => (∃ t, r = .int (ahd (ahdAll os) pl) t) ∧ news' = news) := by
  have hvl : vs.length = os.length := by rw [hD.length, List.length_map]
  have hsz : vs.length ≤ 1000 := by walk_at "om"
  intro dp un gd cn cs a ccd cl outer A₀ base h₀ L m s Q E B F X N T hk hd hu hret
  walk_at "M.enter"
  refine noE ?_
  k_steps
  refine ⟨?_⟩
  try refine settle (g0 := s.gens) (d0 := s.drawn) (o0 := s.os) rfl rfl rfl fun tk8 => ?_
  (with_reducible rename Fr _ _ _ _ => F1)
  (with_reducible rename News _ _ _ _ => N1)
  refine while_st (σ := PlS) (fun m c y => if y = Str.ofString "place" then some (.int c.k c.t) else m y) (fun _ => news) (fun c => (os.length - c.k).toNat) (fun c => 0 ≤ c.k ∧ c.k ≤ os.length ∧ cnt (os.take c.k.toNat) = cnt (os.take pl.toNat)) ⟨pl, tpl⟩ F1 N1 (fun _ h => h) ?hm ⟨hp0, hp1, rfl⟩ ?turn
  case hm =>
    intro y
    by_cases h : y = Str.ofString "place"
    · subst h; exact rfl
    · exact (if_neg h).symm
  case turn =>
    intro c h tk hs F' N' W8 hW8
    obtain ⟨hk0, hk1, hk2⟩ := hs
    clear F1 N1
    have hca : (∃ (_ : vs[c.k.toNat]? = some Value.none), c.k < os.length ∧ os[c.k.toNat]? = some .non) ∨ (∃ av, ∃ (_ : vs[c.k.toNat]? = some (Value.ref av)), c.k < os.length) ∨ ¬ c.k < os.length := by
      by_cases hlt : c.k < os.length
      · obtain ⟨v, hv⟩ : ∃ v, vs[c.k.toNat]? = some v := ⟨_, List.getElem?_eq_getElem (by walk_at "om")⟩
        obtain ⟨o, ho, hvo⟩ := ds_at hD hv
        rcases dat_cases hvo with ⟨rfl, rfl⟩ | ⟨av, rfl, hne⟩
        · exact .inl ⟨hv, hlt, ho⟩
        · exact .inr (.inl ⟨av, hv, hlt⟩)
      · exact .inr (.inr hlt)
    rcases hca with ⟨hv, hlt, ho⟩ | hca
    · k_steps
      refine hW8 _ _ ?_
      refine WEnd.fin ⟨c.k + 1, ?t1⟩ (by assumption) (by assumption) (fun _ h => h) ?gm ?gmu ⟨?g0, ?g1, ?g2⟩
      case gm =>
        intro y
        by_cases h : y = Str.ofString "place"
        · subst h; exact rfl
        · simp only [if_neg h]
      case gmu => simp only; walk_at "om"
      case g0 => simp only; walk_at "om"
      case g1 => simp only; walk_at "om"
      case g2 =>
        simp only
        rw [show (c.k + 1).toNat = c.k.toNat + 1 by walk_at "om", cnt_non ho]; exact hk2
    · rcases hca with ⟨av, hv, hlt⟩ | hlt
      all_goals k_steps
      all_goals refine ⟨?_⟩
      all_goals k_dflt (refine LCt.ListComp_T (F₀ := by k_asm) (by with_unfolding_all rfl) (by decide) (by rfl) (by decide) (by rfl) ?_)
      all_goals k_steps
      all_goals refine ⟨?_⟩
      all_goals (with_reducible rename Fr _ _ _ _ => F4)
      all_goals (with_reducible rename News _ _ _ _ => N4)
      all_goals rw [pick_upto _ hk0] at N4
      all_goals clear N' 
      all_goals (
        have htl : (vs.take c.k.toNat).length = c.k.toNat := by rw [List.length_take]; walk_at "om"
        have hDt : DatAll news (vs.take c.k.toNat) ((os.take c.k.toNat).map Op.dat) := by rw [List.map_take]; exact dats_take hD _
        refine CompSrcT.ledger rfl F4 N4 List.mem_cons_self (by rw [List.size_toArray, htl]; exact Nat.le_trans (by walk_at "om" : c.k.toNat ≤ 1000) (Nat.le_of_ble_eq_true rfl)) ?_
        intro g2
        refine restT_inv (vs.take c.k.toNat).length (fun i ys nw => nw = (_, listOf (vs.take c.k.toNat).toArray 0) :: news ∧ (ys.length : Int) = cnt ((os.take c.k.toNat).take i)) ?cturn ?cfin _ 0 [] _ (by simp) ⟨rfl, rfl⟩
        case cturn =>
          rintro i ys nw hi ⟨rfl, hys⟩ v I oI C oC D m₂ h3 tk3 E3 hP hns hx F3 N3 off3 ne3
          have hv2 : (vs.take c.k.toNat)[i]? = some v := by simpa using hP
          obtain ⟨o2, ho2, hvo2⟩ := ds_at hDt hv2
          clear F4 N4
          rcases dat_cases hvo2 with ⟨rfl, rfl⟩ | ⟨av, rfl, hne⟩
          · k_steps
            refine CompEnd.intro (by assumption) N3 _ (fun _ h => h) off3 (.inr ⟨_, List.mem_cons_self, rfl, _, rfl⟩) ⟨rfl, by rw [cnt_non ho2]; exact hys⟩
          · k_steps
            refine CompEnd.intro (by assumption) N3 _ (fun _ h => h) off3 (.inr ⟨_, List.mem_cons_self, rfl, _, rfl⟩) ⟨rfl, by rw [cnt_op ho2 hne, List.length_append]; simp; walk_at "om"⟩
        case cfin =>
          rintro ys nw ⟨rfl, hys⟩ D h3 tk3 F3 N3 off3
          clear F4 N4
          rw [htl, List.take_take, Nat.min_self] at hys
          have hcl : ys.length ≤ 60 := by
            have := cnt_le os c.k.toNat
            walk_at "om"
          k_steps
          refine hret _ news _ _ (by assumption) (news_sub (by assumption) (by walk_at "M.sub")) ⟨int_ex ?_, rfl⟩
          rw [ahd_at os hp0 hp1, ← hk2, ← hys])
end S_P6
end G_P2_P6
section S_E1
theorem turn_back {A₀ : Around} {base h₀ g g' hp : Heap} {outer : List Env} {L L' : Addr} {m m' : Str → Option Value} {news' : List (Addr × Obj)}
    (B : Below A₀ base outer h₀) (FG : Fr h₀ L g m) (D : KtsDicts (outer.filterMap (·.frame)) h₀) (T' : KtsTurn (L :: outer.filterMap (·.frame)) g g') (F' : Fr g' L' hp m') (N' : News g' L' hp news') :
    ∃ h₀', KtsTurn (outer.filterMap (·.frame)) h₀ h₀' ∧ Fr h₀' L hp m ∧ News h₀' L hp news' ∧ Below A₀ base outer h₀' ∧ KtsDicts (outer.filterMap (·.frame)) h₀' := by
  have nL : h₀.get? L = none := Heap.get?_none_of_le FG.above
  obtain ⟨T₁, S₁⟩ := kts_turn_at (h := hp) (fs := outer.filterMap (·.frame)) (g := h₀)
    (fun b hb => by
      obtain ⟨_, o, ho', _⟩ := B.frames.mem hb
      exact ⟨o, ho'⟩)
    (fun b o e hn => F'.keep b o (T'.other b o (FG.keep b o e) (fun q => by
      rcases List.mem_cons.mp q with z | z
      · rw [z, nL] at e; cases e
      · exact hn z)))
    (fun b o e _ => by
      obtain ⟨sl, hs⟩ := T'.up (FG.keep b o e)
      exact ⟨sl, F'.keep _ _ hs⟩)
  obtain ⟨oL, es, ep, hL, hLd, hLk, hLf⟩ := FG.ns
  obtain ⟨sl, hs⟩ := T'.up hL
  refine ⟨_, T₁, ⟨⟨_, es, ep, F'.keep _ _ hs, hLd, hLk, hLf⟩, S₁, by rw [T₁.size]; exact FG.above⟩, fun p hp' => ⟨(N' p hp').1, fun q => ?_, T₁.none_ _ ?_⟩, ⟨B.stack, fun b o e => T₁.other b o (B.stays b o e) (fun hm => by
      rw [(B.frames.mem hm).1] at e; cases e), B.frames.of_keeps fun b o e _ => ?_⟩, D.turn T₁⟩
  · have := (N' p hp').2.2
    rw [q, hs] at this; cases this
  · cases q : h₀.get? p.1 with
    | none => rfl
    | some o =>
      obtain ⟨sl', hs'⟩ := T'.up (FG.keep _ _ q)
      have := (N' p hp').2.2
      rw [hs'] at this; cases this
  · obtain ⟨sl', hs'⟩ := T₁.up e
    exact ⟨_, hs', rfl⟩
/-- what a call that may have caught an exception hands back -/
def LeaveT (w : World) (mean : ExcName → Option Value) (mg mb : Str → Option Value) (A₀ : Around) (base : Heap) (outer : List Env) (h₀ : Heap) (L : Addr) (m : Str → Option Value) (g : Heap) (R : Result → Shared → Prop) (v : Value) (s' : Shared) : Prop :=
  ∃ g' L' m' news', KtsTurn (L :: outer.filterMap (·.frame)) g g' ∧ Fr g' L' s'.heap m' ∧ News g' L' s'.heap news' ∧
    (∀ h₀', KtsTurn (outer.filterMap (·.frame)) h₀ h₀' → Fr h₀' L s'.heap m → News h₀' L s'.heap news' → Below A₀ base outer h₀' → (hd.heap_39 w.params).In h₀' → Top topProg LL mean mg mb h₀' → KtsDicts (outer.filterMap (·.frame)) h₀' → R (.ok (.ret v)) s')
section
variable {w : World} {A₀ A : Around} {s : Shared} {base h₀ : Heap} {outer : List Env} {L : Addr} {m : Str → Option Value} {env : Env} {news : List (Addr × Obj)} {mean : ExcName → Option Value} {mg mb : Str → Option Value}
  {R : Result → Shared → Prop} {name qual : Str} {params : Arguments} {body : List Stmt} {scope : Scope} {dV kV doc pm cdv ct oc : Value} {an od : Option Addr} {osl : Array (Option Value)} {f : Addr} {args : Args} {binds : List (Str × Value)}
theorem enterT (B : Below A₀ base outer h₀) (F : Fr h₀ L s.heap m) (X₀ : (hd.heap_39 w.params).In h₀) (N : News h₀ L s.heap news) (T : Top topProg LL mean mg mb h₀) (XB : (hd.heap_39 w.params).In base) (TB : Top topProg LL mean mg mb base) (D : KtsDicts (outer.filterMap (·.frame)) h₀)
    (hA : A.frames = some (env :: outer)) (hf : env.frame = some L) (hke : env.scope.kind = .function)
    (ho : (hd.heap_39 w.params).lookup f = some ⟨oc, od, .func (fnOf name qual params body scope dV kV doc pm an cdv ct), osl⟩) (hcd : codeIn (hd.heap_39 w.params) cdv qual = true) (hroom : A.depth < recursionLimit)
    (hbind : BindsTo s (fnOf name qual params body scope dV kV doc pm an cdv ct) args binds) (hkind : (binds.all fun y => scope.names.lookup y.1 == some .local || scope.names.lookup y.1 == some .cell) = true)
    (hnd : ((cellsFrom 0 scope.names []).map (·.1)).Nodup)
    (h : ∀ g L' h₁ tk cells, Fr h₀ L g m → Fr g L' h₁ (bindL (envOfC qual scope L' f cdv).kindOf binds fun _ => none) → News g L' h₁ (cells ++ news) →
      CellsAre (bindC (envOfC qual scope L' f cdv).kindOf binds fun _ => none) (cellsFrom (L' + 1) scope.names []) cells → Below A base (env :: outer) g → (hd.heap_39 w.params).In g → Top topProg LL mean mg mb g → (∀ p ∈ news, p.1 < L') → KtsDicts ((env :: outer).filterMap (·.frame)) g →
      wpAny (model PySem.Challenge.rw_pb0246_01.row.prog w) (A.deeper (envOfC qual scope L' f cdv)) (execs body (envOfC qual scope L' f cdv))
        (fun fl s' => LeaveT w mean mg mb A₀ base outer h₀ L m g R (match fl with | .ret v => v | _ => .none) s')
        (fun e s' => wpAny (model PySem.Challenge.rw_pb0246_01.row.prog w) (A.deeper (envOfC qual scope L' f cdv)) (leaving (envOfC qual scope L' f cdv) e) (fun _ s'' => R (.error e) s'') (fun e' s'' => R (.error e') s'') s')
        { s with heap := h₁, toks := tk })
    (hco : scope.isCoroutine = false) (hgen : scope.isGenerator = false) (hk : scope.kind = .function) : codeAny (model PySem.Challenge.rw_pb0246_01.row.prog w) A (.call (.ref f) args) R s := by
  obtain ⟨FG, BG, st, _⟩ := groundX (R := R) B F N hA hf hke
  have X := X₀.keeps F.keep
  have Tl := T.nolimit
  have DG : KtsDicts ((env :: outer).filterMap (·.frame)) (hideAll s.heap (news.map (·.1))) := by
    intro b hb
    rw [List.filterMap_cons, hf] at hb
    rcases List.mem_cons.mp hb with rfl | hb
    · obtain ⟨o, es, ep, ho, hd, _⟩ := FG.ns
      exact ⟨o, es, ep, ho, hd⟩
    · obtain ⟨o, es, n, ho, hd⟩ := D b hb
      exact ⟨o, es, n, st b o ho, hd⟩
  refine codeAny_call_function hroom (X _ _ ho) rfl hco hgen rfl (codeRec_of X hcd) (hbind _ _ _ _ ?_)
  refine wpAny_newFunctionEnv_cells hk (kindsX hkind _) fun env' he s' x => ?_
  subst he
  refine ⟨(Tl.keeps F.keep).keeps x.toInCall.keep, codeAny_func ?_⟩
  obtain ⟨h₁, tk, rfl, _⟩ := x.done
  have hk₁ := x.toInCall.keep
  obtain ⟨cells, NC, Y⟩ := Cl.news (h₀ := s.heap) (Nat.le_refl _) fun n c hm => ⟨x.cell n c (lookup_of_mem_nodup (cellsFrom_names scope.names 0 (s.heap.objs.size + 1) [] [] rfl ▸ hnd) hm), x.above n c hm⟩
  refine wpAny_mono (h _ s.heap.objs.size h₁ tk cells FG ⟨x.toInCall.ns, fun b o e => hk₁ b o (of_hideAll _ e), Nat.le_of_eq (hideAll_size _ _)⟩ (fun p hp => ?_) Y BG (X₀.keeps st) (T.keeps st) (fun p hp => Heap.lt_size (N p hp).1) DG) (fun fl s' hl => ?_) fun _ _ y => y
  · rcases List.mem_append.mp hp with hp | hp
    · refine ⟨(NC p hp).1, (NC p hp).2.1, ?_⟩
      cases q : (hideAll s.heap (news.map (·.1))).get? p.1 with
      | none => rfl
      | some o => have := of_hideAll _ q; rw [(NC p hp).2.2] at this; cases this
    · exact ⟨hk₁ _ _ (N p hp).1, Nat.ne_of_lt (Heap.lt_size (N p hp).1), hideAll_none _ (List.mem_map_of_mem hp)⟩
  · obtain ⟨g', L', m', news', T', F', N', k⟩ := hl
    obtain ⟨h₀', T₁, F₁, N₁, B₁, D₁⟩ := turn_back B FG D T' F' N'
    exact k h₀' T₁ F₁ N₁ B₁ (XB.keeps B₁.stays) (TB.keeps B₁.stays) D₁
end
end S_E1
section S_E2
noncomputable def excO (t : Addr) (dd : Option Addr) : Obj := { cls := .ref 122, dict := dd, data := .fields #[.ref t, .none, .none, .none, .bool false, .none] }
section
variable {prog : Program} {w : World} {A : Around} {E : Value → Shared → Prop} {nm q : Str} {C N : Addr} {bs bm : List Value} {hdct : Bool} {sn : List Str} {sub : List Value} {ab : Bool} {col : Option Bool} {dd : Option Addr} {k0 k1 k2 k3 k5 : Option Value} {newId nid I : String} {cls : String}
theorem check_own {M : Model} {h : Heap} {g : Array GenState} {d : Drawn} {t : Nat} {os : OsState} {e : Addr} {oe : Obj} {rest : List Value} {Q : Unit → Shared → Prop} (F : ExcCallFacts cls nid I) (hcB : (Value.ref C :: bm).contains (.type cls) = true)
    (hC : h.get? C = some (excClassObj nm q C N bs bm hdct sn sub ab col dd k0 k1 k2 k3 k5 newId)) (he : h.get? e = some oe) (hcls : oe.cls = .ref C) (hq : Q () ⟨h, g, d, t, os⟩) :
    wpAny M A (checkBuiltinCall I ⟨.ref e :: rest, []⟩) Q E ⟨h, g, d, t, os⟩ := by
  have hshort := F.noStar
  simp only [checkBuiltinCall, F.initKind, F.initSplit, F.initRow]
  repeat (first | (with_reducible refine wpAny_loadPart_at he ?_; rw [hcls]) | with_reducible refine wpAny_loadPart_at hC ?_ | (with_reducible refine wpAny_isSubtype_exc hC ?_; rw [hcB]) | wp_step)
  refine wpAny_onRaise ?_
  rw [show ∀ (a b : String) (n : Nat), Bind.check ⟨.positional, "*", cls, .self, [⟨"args", .varPos, false⟩]⟩ a b n (List.map (fun x => x.fst) ({ pos := Value.ref e :: rest } : Args).kw) = pure () from
    fun a b n => check_star_args _ _ _ _ _ _]
  exact wpAny_pure hq
theorem init_own {s : Shared} {e t0 : Addr} {oe : Obj} {vs : Array Value} {rest : List Value} {Q : Value → Shared → Prop} (F : ExcCallFacts cls nid I) (hcB : (Value.ref C :: bm).contains (.type cls) = true)
    (hC : s.heap.get? C = some (excClassObj nm q C N bs bm hdct sn sub ab col dd k0 k1 k2 k3 k5 newId)) (he : s.heap.get? e = some oe) (hcls : oe.cls = .ref C) (hd : oe.data = .fields vs) (h0 : vs[0]? = some (.ref t0))
    (h : Q .none { s with heap := (s.heap.push { cls := .type "tuple", data := .seq rest.toArray }).update e (Obj.mapFields (·.setIfInBounds 0 (.ref s.heap.objs.size))) }) (hrest : rest.length ≤ sizeLine := by size_fits) :
    wpAny (model prog w) A (call (.builtin I) (.ref e :: rest)) Q E s := by
  refine wpAny_call (codeAny_call_builtin F.init.plain F.initEntry (check_own F hcB hC he hcls ?_))
  unfold Builtin.«BaseException.__init__»
  dsimp only
  rw [if_neg (by simp)]
  unfold newTuple Builtin.BaseException.bexcPut
  have hsz : 0 < vs.size := (Array.getElem?_eq_some_iff.mp h0).1
  have he₁ := Heap.get?_push_of_some (h := s.heap) { cls := .type "tuple", data := .seq rest.toArray } he
  refine wpAny_bind (wpAny_newObj_type (wpAny_bind (wpAny_bind (wpAny_field he₁ hd h0 (wpAny_bind (wpAny_setField he₁ hd hsz ?_))))) (by show rest.toArray.size ≤ sizeLine; rw [List.size_toArray]; exact hrest))
  exact wpAny_letGo (wpAny_pure h)
end
/-- Exception.__init__ upon an object of StepFault, in the ledger's words -/
theorem init_K {w : World} {A : Around} {E : Value → Shared → Prop} {s : Shared} {h₀ : Heap} {L e t0 : Addr} {m : Str → Option Value} {rest : List (Addr × Obj)} {v : Value} {dd : Option Addr} {Q : Value → Shared → Prop}
    (F : Fr h₀ L s.heap m) (X : (hd.heap_39 w.params).In h₀) (N : News h₀ L s.heap ((e, excO t0 dd) :: rest)) (hr : ∀ p ∈ rest, p.1 ≠ e) (hk : ktsIn (hd.heap_39 w.params) 122 "Exception" = true)
    (h : ∀ t h', Fr h₀ L h' m → News h₀ L h' ((e, excO t dd) :: (t, { cls := .type "tuple", data := .seq #[v] }) :: rest) → (∀ p ∈ (e, excO t0 dd) :: rest, p.1 < t) → Q .none { s with heap := h' }) :
    wpAny (model PySem.Challenge.rw_pb0246_01.row.prog w) A (call (.builtin "Exception.__init__") [.ref e, v]) Q E s := by
  obtain ⟨nm, qn, Ns, bs, bm, hdct, sn, sub, ab, col, dd', k0, k1, k2, k3, k5, newId, hC, _, hT⟩ := kts_cls (X.keeps F.keep) hk
  have he := (N _ List.mem_cons_self).1
  refine init_own (t0 := t0) PySem.F.excCall_Exception (by rw [List.contains_cons, hT, Bool.or_true]) hC he rfl rfl rfl ?_
  have hlt := Heap.lt_size he
  have he₁ := Heap.get?_push_of_some (h := s.heap) { cls := .type "tuple", data := .seq #[v] } he
  have hne : e ≠ s.heap.objs.size := Nat.ne_of_lt hlt
  have heL : e ≠ L := (N _ List.mem_cons_self).2.1
  have he0 : h₀.get? e = none := (N _ List.mem_cons_self).2.2
  have up := Heap.get?_update_self (Obj.mapFields (·.setIfInBounds 0 (.ref s.heap.objs.size))) he₁ rfl
  have oth : ∀ b, e ≠ b → ((s.heap.push { cls := .type "tuple", data := .seq #[v] }).update e (Obj.mapFields (·.setIfInBounds 0 (.ref s.heap.objs.size)))).get? b = (s.heap.push { cls := .type "tuple", data := .seq #[v] }).get? b := fun b hb => Heap.get?_update_other _ _ hb
  obtain ⟨oL, es, ep, hL, r⟩ := F.ns
  refine h s.heap.objs.size _ ⟨⟨oL, es, ep, by rw [show [v].toArray = #[v] from rfl, oth L heL]; exact Heap.get?_push_of_some _ hL, r⟩, fun b o hb => ?_, F.above⟩ (fun p hp => ?_) (fun p hp => Heap.lt_size (N p hp).1)
  · rw [show [v].toArray = #[v] from rfl, oth b (fun q => by rw [← q, he0] at hb; cases hb)]
    exact Heap.get?_push_of_some _ (F.keep b o hb)
  · rw [show [v].toArray = #[v] from rfl]
    rcases List.mem_cons.mp hp with rfl | hp
    · exact ⟨up, heL, he0⟩
    · rcases List.mem_cons.mp hp with rfl | hp
      · exact ⟨by rw [oth _ hne]; exact Heap.get?_push_size _ rfl, Nat.ne_of_gt F.ns.lt, next_is_new F⟩
      · have z := N p (List.mem_cons_of_mem _ hp)
        exact ⟨by rw [oth _ (Ne.symm (hr p hp))]; exact Heap.get?_push_of_some _ z.1, z.2⟩
end S_E2
section S_E3
open PySem.Builtin.ObjectAttr in
theorem refuse_exc (self : Value) : refuseLoop self "__setattr__" [.type "Exception", .type "BaseException", .type "object"] = pure () := by
  first | rfl | kernel_rfl
theorem cls_mk {K : Frag} {C : Addr} {cd : ClassData} {l : List Value} (h1 : clsIn K C = some cd) (h2 : cd.mro = l) (h3 : cd.hasDict = true) : ∃ cd, clsIn K C = some cd ∧ cd.mro = l ∧ cd.hasDict = true := ⟨cd, h1, h2, h3⟩
theorem cls122 {w : World} : ∃ cd, clsIn (hd.heap_39 w.params) 122 = some cd ∧ cd.mro = [.ref 122, .ref 85, .type "Exception", .type "BaseException", .type "object"] ∧ cd.hasDict = true := by
  refine' cls_mk ?a ?b ?c
  (case a => first | k_is | (k_dflt (exact rfl)))
  (case b => exact rfl)
  (case c => exact rfl)
theorem find122 {w : World} : findIn (hd.heap_39 w.params) (.ref 122) "__setattr__" = some (some (.builtin "object.__setattr__")) := by k_is
theorem findw {w : World} : findIn (hd.heap_39 w.params) (.ref 122) (Str.ofString "what") = some none := by k_is
theorem finda {w : World} : findIn (hd.heap_39 w.params) (.ref 122) (Str.ofString "at") = some none := by k_is
theorem mro122 {w : World} : mroIn (hd.heap_39 w.params) 122 (.type "object") = some true := by first | k_is | (k_dflt (exact rfl))
section
variable {w : World} {A : Around} {s : Shared} {R : Result → Shared → Prop} {e t : Addr} {dd : Option Addr} {name : Str} {tk : Tok} {v : Value}
theorem exc_open (X : (hd.heap_39 w.params).In s.heap) (he : s.heap.get? e = some (excO t dd)) (hf : findIn (hd.heap_39 w.params) (.ref 122) name = some none)
    (h : wpAny (model PySem.Challenge.rw_pb0246_01.row.prog w) A.in1 (Builtin.ObjectAttr.storeInOwnDict (.ref e) (.ref 122) (.str name tk) name v false)
      (fun fin s' => match fin with | .done f => R (.ok f) s' | .again c' => c'.quiet = true ∧ codeAny (model PySem.Challenge.rw_pb0246_01.row.prog w) A c' R s') (fun e s' => R (.error e) s') s) :
    codeAny (model PySem.Challenge.rw_pb0246_01.row.prog w) A (.call (.builtin "object.__setattr__") ⟨[.ref e, .str name tk, v], []⟩) R s := by
  have SF := PySem.F.store_object
  obtain ⟨cd, hc, hm, hh⟩ := cls122 (w := w)
  have LT : Looks (model PySem.Challenge.rw_pb0246_01.row.prog w) s.heap (typeOf (.ref e)) (.ref 122) := (Looks.ld he).andThen .now
  have sub : Looks (model PySem.Challenge.rw_pb0246_01.row.prog w) s.heap (isInstance (.ref e) (.type "object")) true := LT.andThen (looks_mroIn X mro122)
  refine codeAny_call_builtin SF.slot.plain SF.entry (@check_slot (model PySem.Challenge.rw_pb0246_01.row.prog w) _ _ s "object.__setattr__" "object" "__setattr__" (.ref e) [.str name tk, v] [] _ SF.kind SF.split sub (SF.args (.ref e) (.str name tk) v) ?_)
  have LM : Looks (model PySem.Challenge.rw_pb0246_01.row.prog w) s.heap (mroOf (.ref 122)) cd.mro := (looks_clsIn X hc).andThen .now
  rw [osa_eq, refuse_eq]
  refine wpAny_bind (wpAny_bind (LT.here (wpAny_bind (LM.here ?_))))
  rw [hm, refuseLoop_ref, refuseLoop_ref, refuse_exc]
  exact wpAny_pure (wpAny_bind (LT.here (wpAny_bind ((looks_findIn X hf).here (wpAny_bind (wpAny_pure h))))))
end
section
variable {w : World} {A : Around} {E : Value → Shared → Prop} {s : Shared} {h₀ : Heap} {L e t dx : Addr} {m : Str → Option Value} {name : Str} {tk : Tok} {v : Value} {pre post rest : List (Addr × Obj)} {es es' : List DictEntry} {n n' : Nat} {Q : Fin → Shared → Prop}
theorem store_K (F : Fr h₀ L s.heap m) (N : News h₀ L s.heap (pre ++ (dx, dictOf es n) :: post)) (h1 : ∀ p ∈ pre, p.1 ≠ dx) (h2 : ∀ p ∈ post, p.1 ≠ dx) (hk : es.any (·.refKey) = false)
    (he : (putL name (PyData.keyHash w.params name) (.str name s.toks) v es, putN name es n) = (es', n')) (hz : es'.length ≤ 1000)
    (h : ∀ h', Fr h₀ L h' m → News h₀ L h' (pre ++ (dx, dictOf es' n') :: post) → Q (.done (.ret .none)) { s with heap := h', toks := s.toks + 1 }) :
    wpAny (model PySem.Challenge.rw_pb0246_01.row.prog w) A (Builtin.ObjectAttr.storeInDict dx (.str name tk) name v) Q E s := by
  obtain ⟨e1, e2⟩ := Prod.mk.inj he
  have ep : Obj.putName name (PyData.keyHash w.params name) (.str name s.toks) v (dictOf es n) = dictOf es' n' := by rw [putName_dict, e1, e2]
  obtain ⟨U1, U2⟩ := news_upd (f := Obj.putName name (PyData.keyHash w.params name) (.str name s.toks) v) F N h1 h2 ep rfl
  have D := (N (dx, dictOf es n) (by simp)).1
  have D' := (U2 (dx, dictOf es' n') (by simp)).1
  refine wpAny_bind (wpAny_pure (wpAny_bind ?_))
  unfold nsSet
  refine wpAny_bind (wpAny_bind (wpAny_askSetting (wpAny_pure (wpAny_bind (wpAny_mkText (wpAny_bind (wpAny_loadPart D ?_)))))))
  dsimp only
  have c : (!es.toArray.any (·.key.isStr name) && es.toArray.any (·.refKey)) = false := by
    have h9 : (es.toArray.any fun x => x.refKey) = false := by rw [← hk]; simp
    rw [h9, Bool.and_false]
  rw [aRefKeyMayBeTheName_at, c]
  refine wpAny_updatePart D ?_
  refine wpAny_bind (wpAny_lookBehind D' (pastItsLine_dict (by rw [List.size_toArray, sizeLine_eq]; walk_at "om")) ?_)
  exact wpAny_pure (h _ U1 U2)
end
section
variable {w : World} {A : Around} {E : Value → Shared → Prop} {s : Shared} {h₀ : Heap} {L e t dx : Addr} {m : Str → Option Value} {name : Str} {v : Value} {rest : List (Addr × Obj)}
theorem own_new (F : Fr h₀ L s.heap m) (X : (hd.heap_39 w.params).In h₀) (N : News h₀ L s.heap ((e, excO t none) :: rest)) (hr : ∀ p ∈ rest, p.1 ≠ e) {tk : Tok} {Q : Fin → Shared → Prop}
    (h : ∀ d h' o, Fr h₀ L h' m → News h₀ L h' ((d, o) :: (e, excO t (some d)) :: rest) → o = dictOf [⟨PyData.keyHash w.params name, .str name s.toks, v⟩] 1 → (∀ p ∈ (e, excO t none) :: rest, p.1 < d) → Q (.done (.ret .none)) { s with heap := h', toks := s.toks + 1 }) :
    wpAny (model PySem.Challenge.rw_pb0246_01.row.prog w) A (Builtin.ObjectAttr.storeInOwnDict (.ref e) (.ref 122) (.str name tk) name v false) Q E s := by
  obtain ⟨cd, hc, _, hh⟩ := cls122 (w := w)
  have he := (N _ List.mem_cons_self).1
  refine wpAny_bind (wpAny_pure (wpAny_bind (wpAny_bind (wpAny_loadPart he (wpAny_bind ((looks_clsIn (X.keeps F.keep) hc).here ?_))))))
  rw [hh]
  refine wpAny_bind (wpAny_alloc ?_)
  have N₁ : News h₀ L (s.heap.push (dictOf [] 0)) ([(s.heap.objs.size, dictOf [] 0)] ++ (e, excO t none) :: rest) := News.push F N (dictOf [] 0)
  obtain ⟨U1, U2⟩ := news_upd (f := fun o => { o with dict := some s.heap.objs.size }) (o' := excO t (some s.heap.objs.size)) (F.push (dictOf [] 0)) N₁ (by
    intro p hp; rw [List.mem_singleton.mp hp]; exact Nat.ne_of_gt (Heap.lt_size he)) hr rfl rfl
  refine wpAny_bind (wpAny_update (N₁ (e, excO t none) (by simp)).1 (wpAny_bind (wpAny_pure ?_)))
  refine wpAny_pure (a := some s.heap.objs.size) (store_K (pre := []) (es := []) (n := 0) U1 U2 (fun _ h => nomatch h) ?_ rfl rfl (Nat.le_of_ble_eq_true rfl) fun h' F' N' => h s.heap.objs.size h' _ F' N' rfl fun p hp => Heap.lt_size (N p hp).1)
  intro p hp
  rcases List.mem_cons.mp hp with rfl | hp
  · exact Nat.ne_of_lt (Heap.lt_size he)
  · exact Nat.ne_of_lt (Heap.lt_size (N p (List.mem_cons_of_mem _ hp)).1)
theorem own_old {es es' : List DictEntry} {n n' : Nat} (F : Fr h₀ L s.heap m) (X : (hd.heap_39 w.params).In h₀) (N : News h₀ L s.heap ((dx, dictOf es n) :: (e, excO t (some dx)) :: rest)) (hr : ∀ p ∈ (e, excO t (some dx)) :: rest, p.1 ≠ dx) {tk : Tok} {Q : Fin → Shared → Prop}
    (hk : es.any (·.refKey) = false) (he : (putL name (PyData.keyHash w.params name) (.str name s.toks) v es, putN name es n) = (es', n')) (hz : es'.length ≤ 1000)
    (h : ∀ h', Fr h₀ L h' m → News h₀ L h' ((dx, dictOf es' n') :: (e, excO t (some dx)) :: rest) → Q (.done (.ret .none)) { s with heap := h', toks := s.toks + 1 }) :
    wpAny (model PySem.Challenge.rw_pb0246_01.row.prog w) A (Builtin.ObjectAttr.storeInOwnDict (.ref e) (.ref 122) (.str name tk) name v false) Q E s := by
  obtain ⟨cd, hc, _, hh⟩ := cls122 (w := w)
  have he' := (N (e, excO t (some dx)) (by simp)).1
  refine wpAny_bind (wpAny_pure (wpAny_bind (wpAny_bind (wpAny_loadPart he' (wpAny_bind ((looks_clsIn (X.keeps F.keep) hc).here ?_))))))
  rw [hh]
  exact wpAny_pure (a := some dx) (store_K (pre := []) F N (fun _ h => nomatch h) hr hk he hz h)
end
section
variable {w : World} {A : Around} {E : Value → Shared → Prop} {s : Shared} {h₀ : Heap} {L e t dx : Addr} {dd : Option Addr} {m : Str → Option Value} {name : Str} {v : Value} {rest : List (Addr × Obj)}
theorem set_exc {Q : Unit → Shared → Prop} (X : (hd.heap_39 w.params).In s.heap) (he : s.heap.get? e = some (excO t dd)) (hf : findIn (hd.heap_39 w.params) (.ref 122) name = some none)
    (h : ∀ A', wpAny (model PySem.Challenge.rw_pb0246_01.row.prog w) A' (Builtin.ObjectAttr.storeInOwnDict (.ref e) (.ref 122) (.str name s.toks) name v false)
      (fun fin s' => fin = .done (.ret .none) ∧ Q () s') (fun e s' => E e s') { s with toks := s.toks + 1 }) :
    wpAny (model PySem.Challenge.rw_pb0246_01.row.prog w) A (setAttr (.ref e) name v) Q E s := by
  have SF := PySem.F.store_object
  have LT : Looks (model PySem.Challenge.rw_pb0246_01.row.prog w) s.heap (typeOf (.ref e)) (.ref 122) := (Looks.ld he).andThen .now
  unfold setAttr
  refine wpAny_bind (wpAny_mkText (wpAny_bind ?_))
  unfold callSpecial? specialOf
  refine wpAny_bind (wpAny_bind (LT _ _ _ _ (fun _ _ z => z) (looks_findIn X find122 _ _ _ _ (fun _ _ z => z) ?_)))
  dsimp only
  refine wpAny_holding (wpAny_bind (wpAny_of_eq (SF.slot.bind (.ref e)) (wpAny_bind (wpAny_call (exc_open (s := { s with toks := s.toks + 1 }) X he hf (wpAny_mono (h _) ?_ ?_))))))
  · rintro fin s' ⟨rfl, hq⟩
    exact wpAny_pure (wpAny_pure hq)
  · exact fun _ _ e => e
theorem set_new {Q : Unit → Shared → Prop} (F : Fr h₀ L s.heap m) (X : (hd.heap_39 w.params).In h₀) (N : News h₀ L s.heap ((e, excO t none) :: rest)) (hr : ∀ p ∈ rest, p.1 ≠ e) (hf : findIn (hd.heap_39 w.params) (.ref 122) name = some none)
    (h : ∀ d h' tk, Fr h₀ L h' m → News h₀ L h' ((d, dictOf [⟨PyData.keyHash w.params name, .str name tk, v⟩] 1) :: (e, excO t (some d)) :: rest) → (∀ p ∈ (e, excO t none) :: rest, p.1 < d) → Q () { s with heap := h', toks := tk + 1 }) :
    wpAny (model PySem.Challenge.rw_pb0246_01.row.prog w) A (setAttr (.ref e) name v) Q E s :=
  set_exc (X.keeps F.keep) (N _ List.mem_cons_self).1 hf fun A' => own_new (s := { s with toks := s.toks + 1 }) F X N hr fun d h' o F' N' hd l => ⟨rfl, by
    subst hd
    exact h d h' _ F' N' l⟩
theorem set_old {es es' : List DictEntry} {n n' : Nat} {Q : Unit → Shared → Prop} (F : Fr h₀ L s.heap m) (X : (hd.heap_39 w.params).In h₀) (N : News h₀ L s.heap ((dx, dictOf es n) :: (e, excO t (some dx)) :: rest)) (hr : ∀ p ∈ (e, excO t (some dx)) :: rest, p.1 ≠ dx) (hf : findIn (hd.heap_39 w.params) (.ref 122) name = some none)
    (hk : es.any (·.refKey) = false) (he : (putL name (PyData.keyHash w.params name) (.str name (s.toks + 1)) v es, putN name es n) = (es', n')) (hz : es'.length ≤ 1000)
    (h : ∀ h' tk, Fr h₀ L h' m → News h₀ L h' ((dx, dictOf es' n') :: (e, excO t (some dx)) :: rest) → Q () { s with heap := h', toks := tk + 1 }) :
    wpAny (model PySem.Challenge.rw_pb0246_01.row.prog w) A (setAttr (.ref e) name v) Q E s :=
  set_exc (X.keeps F.keep) (N (e, excO t (some dx)) (by simp)).1 hf fun A' => own_old (s := { s with toks := s.toks + 1 }) F X N hr hk he hz fun h' F' N' => ⟨rfl, h h' _ F' N'⟩
end
end S_E3
section G_E4_S4
local macro_rules | `(tactic| k_all) => `(tactic| first | with_reducible assumption | exact allLt_ne (by walk_at "M.lt") | exact lt_neK (by with_reducible assumption) | exact lt_neK2 (by with_reducible assumption) | exact lt_neK3 (by with_reducible assumption))
section S_E4
local macro_rules | `(tactic| walk_at "setAttr ref") => `(tactic| refine Halt.out ?_)
theorem perm3 {α : Type} (a b c : α) {r : List α} : ∀ p ∈ a :: b :: c :: r, p ∈ c :: a :: b :: r := by
  intro p hp; simp only [List.mem_cons] at hp ⊢; rcases hp with h | h | h | h <;> simp [h]
theorem putL_len (name : Str) (hsh : Int) (key v : Value) (es : List DictEntry) : (putL name hsh key v es).length ≤ es.length + 1 := by
  induction es with
  | nil => exact Nat.le_refl _
  | cons e r ih =>
    unfold putL
    split
    · simp
    · simp only [List.length_cons]; walk_at "om"
theorem exc_init {w : World} {mean : ExcName → Option Value} {mg mb : Str → Option Value} {rest : List (Addr × Obj)} {e t : Addr} {x : Str} {tx : Tok} (h1 : ∀ p ∈ rest, p.1 ≠ e) :
    Calls w mean mg mb 20 200 ((e, excO t none) :: rest) 75 [.ref e, .str x tx] (fun r news' => r = .none ∧ ∃ t2 d od, news' = (e, excO t2 (some d)) :: (t2, { cls := .type "tuple", data := .seq #[.str x tx] }) :: (d, od) :: rest ∧ (∀ p ∈ rest, p.1 ≠ t2 ∧ p.1 ≠ d) ∧ @Ne Nat e t2 ∧ @Ne Nat e d ∧ @Ne Nat t2 d) := by
  intro dp un gd cn cs a ccd cl outer A₀ base h₀ L m s Q E B F X N T hk hd hu hret
  refine wpAny_call ?_
  k_dflt (refine' PySem.W.code_def ?k1 ?k2 ?k3 ?k4 ?k5 ?kA ?kF ?kK ?k6 ?k7 ?k8 ?k9 ?kB ?_ ?c2 ?c3 ?c4 ?c5; (case kA => exact rfl); (case kF => exact rfl); (case kK => assumption); (case k1 => k_asm); (case k2 => k_asm); (case k3 => k_asm); (case k4 => k_asm); (case k5 => k_asm); (case k6 => k_is); (case k7 => k_is); (case k8 => ktr_room); (case k9 => exact binds_K (by k_in) rfl (by k_is) rfl rfl rfl); (case c5 => decide); (case kB => exact locs rfl); (case c2 => exact rfl); (case c3 => exact rfl); (case c4 => exact rfl); k_whole; intro g' L' h' FG' F' N' B' X' T'; (try dsimp only); (try k_fold))
  k_steps
  k_dflt (refine method_type F' (by assumption) (by first | rfl | kernel_rfl) (by decide +kernel) (by first | rfl | kernel_rfl) (by rfl) ?_)
  k_steps
  (with_reducible rename Fr _ _ _ _ => F2)
  (with_reducible rename News _ _ _ _ => N2)
  refine init_K F2 (by assumption) N2 h1 (by first | rfl | kernel_rfl) ?_
  intro t2 h2' F3 N3 l3
  clear F2 N2
  k_steps
  refine ⟨?_⟩
  (with_reducible rename Fr _ _ _ _ => F4)
  refine set_new (rest := (t2, { cls := .type "tuple", data := .seq #[.str x tx] }) :: rest) F4 (by assumption) N3 ?_ findw ?_
  · intro p hp
    rcases List.mem_cons.mp hp with rfl | hp
    · exact Nat.ne_of_gt (l3 _ List.mem_cons_self)
    · exact h1 p hp
  intro d h5 tk5 F5 N5 l5
  clear F4 N3
  k_steps
  refine ⟨?_⟩
  (with_reducible rename Fr _ _ _ _ => F6)
  refine set_old (rest := (t2, { cls := .type "tuple", data := .seq #[.str x tx] }) :: rest) F6 (by assumption) N5 ?_ finda rfl rfl (Nat.le_trans (putL_len _ _ _ _ _) (Nat.le_of_ble_eq_true rfl)) ?_
  · intro p hp
    rcases List.mem_cons.mp hp with rfl | hp
    · exact Nat.ne_of_lt (l5 (e, excO t2 none) List.mem_cons_self)
    · exact Nat.ne_of_lt (l5 p (List.mem_cons_of_mem _ hp))
  intro h7 tk7 F7 N7
  clear F6 N5
  k_steps
  refine hret .none _ _ _ (by assumption) (news_sub (by assumption) (perm3 _ _ _)) ⟨rfl, t2, d, _, rfl, ?_, ?_, ?_, ?_⟩
  · intro p hp
    exact ⟨Nat.ne_of_lt (l3 p (List.mem_cons_of_mem _ hp)), Nat.ne_of_lt (l5 p (List.mem_cons_of_mem _ (List.mem_cons_of_mem _ hp)))⟩
  · exact Nat.ne_of_lt (l3 _ List.mem_cons_self)
  · exact Nat.ne_of_lt (l5 _ List.mem_cons_self)
  · exact Nat.ne_of_lt (l5 _ (List.mem_cons_of_mem _ List.mem_cons_self))
end S_E4
section G_E5_R2
local macro_rules | `(tactic| walk_at "eval Lambda") => `(tactic| refine Halt.out ?_)
section S_E5
theorem obj_mk {K : Frag} {C N : Addr} {nm q : Str} {bs bm : List Value} {hdct : Bool} {sn : List Str} {sub : List Value} {ab : Bool} {col : Option Bool} {dd : Option Addr} {k0 k1 k2 k3 k5 : Option Value} {newId : String} (h : K.lookup C = some (excClassObj nm q C N bs bm hdct sn sub ab col dd k0 k1 k2 k3 k5 newId)) :
    ∃ nm q N bs hdct sn sub ab col dd k0 k1 k2 k3 k5, K.lookup C = some (excClassObj nm q C N bs bm hdct sn sub ab col dd k0 k1 k2 k3 k5 newId) := ⟨_, _, _, _, _, _, _, _, _, _, _, _, _, _, _, h⟩
theorem cobj {w : World} : ∃ nm q N bs hdct sn sub ab col dd k0 k1 k2 k3 k5, (hd.heap_39 w.params).lookup 122 = some (excClassObj nm q 122 N bs [.ref 85, .type "Exception", .type "BaseException", .type "object"] hdct sn sub ab col dd k0 k1 k2 k3 k5 "Exception.__new__") := by
  refine' obj_mk ?a
  (case a => k_is)
theorem findi {w : World} : findIn (hd.heap_39 w.params) (.ref 122) "__init__" = some (some (.ref 75)) := by k_is
theorem fn75 {w : World} : typeIn (hd.heap_39 w.params) (.ref 75) = some (.type "function") := by k_is
section
variable {prog : Program} {w : World} {M : Model} {A : Around} {E : Value → Shared → Prop} {R : Result → Shared → Prop} {h : Heap} {g : Array GenState} {d : Drawn} {t : Nat} {os : OsState}
variable {nm q : Str} {C N : Addr} {bs bm bmN : List Value} {hdct : Bool} {sn : List Str} {sub : List Value} {ab : Bool} {col : Option Bool} {dd : Option Addr} {k0 k1 k2 k3 k5 : Option Value} {Bn newId inN : String}
theorem new_check (Fn : ExcBaseFacts Bn newId inN bmN) (hcB : (Value.ref C :: bm).contains (.type Bn) = true) {rest : List Value} {Q : Unit → Shared → Prop} (hC : h.get? C = some (excClassObj nm q C N bs bm hdct sn sub ab col dd k0 k1 k2 k3 k5 newId))
    (hq : Q () ⟨h, g, d, t, os⟩) : wpAny M A (checkBuiltinCall newId ⟨.ref C :: rest, []⟩) Q E ⟨h, g, d, t, os⟩ := by
  have hstar := Fn.noStar
  simp only [checkBuiltinCall, Fn.newKind, Fn.newSplit, Fn.newRow]
  repeat (first | refine wpAny_loadPart_at hC ?_ | (refine wpAny_isSubtype_exc hC ?_; rw [hcB]) | refine wpAny_staticBase_exc hC ?_ | refine wpAny_madeBy_exc hC ?_ | simp only [bne_self_eq_false, Bool.false_eq_true, if_false] | wp_step)
  exact hq
theorem new_made (Fn : ExcBaseFacts Bn newId inN bmN) (hcB : (Value.ref C :: bm).contains (.type Bn) = true) (hcA : (Value.ref C :: bm).contains (.type "AttributeError") = false) (hcN : (Value.ref C :: bm).contains (.type "NameError") = false) {rest : List Value} (hC : h.get? C = some (excClassObj nm q C N bs bm hdct sn sub ab col dd k0 k1 k2 k3 k5 newId))
    (hq : R (.ok (.ret (.ref (h.objs.size + 1)))) ⟨(h.push { cls := .type "tuple", data := .seq rest.toArray }).push
      { cls := .ref C, data := .fields #[.ref h.objs.size, .none, .none, .none, .bool false, .none] }, g, d, t, os⟩) (hrest : rest.length ≤ sizeLine := by size_fits) :
    codeAny (model prog w) A (.builtin newId ⟨.ref C :: rest, []⟩) R ⟨h, g, d, t, os⟩ := by
  have hends := Fn.ends
  refine codeAny_builtinAt Fn.entry ?_
  unfold Builtin.«BaseException.__new__»
  refine PySem.wpAt_bind ?_
  show PySem.wpAt _ _ _ (stack >>= _) _ _ _
  refine PySem.wpAt_bind (PySem.wpAt_stack fun p below => PySem.wpAt_of_wpAny ?_)
  wp_walk
  refine PySem.wpAt_of_wpAny ?_
  rw [Fn.owner]
  repeat (first | with_reducible refine wpAny_madeHere_exc Fn.canon hC ?_ | with_reducible refine wpAny_loadPart_at hC ?_ | (with_reducible refine wpAny_isSubtype_exc hC ?_; first | rw [hcB] | rw [hcA] | rw [hcN]) | wp_step)
  show R _ _
  rw [Heap.size_push]
  exact hq
end
theorem mro122s {w : World} : mroIn (hd.heap_39 w.params) 122 (.ref 122) = some true := by first | k_is | (k_dflt (exact rfl))
theorem exc_make {w : World} {mean : ExcName → Option Value} {mg mb : Str → Option Value} {news : List (Addr × Obj)} {x : Str} {tx : Tok} :
    Calls w mean mg mb 40 400 news 122 [.str x tx] (fun r news' => ∃ e t d, r = .ref e ∧ news' = (e, excO t (some d)) :: (t, { cls := .type "tuple", data := .seq #[.str x tx] }) :: news ∧ ∀ p ∈ news, p.1 ≠ e ∧ p.1 ≠ t) := by
  intro dp un gd cn cs a ccd cl outer A₀ base h₀ L m s Q E B F X N T hk hdp hu hret
  obtain ⟨nm, q, Ns, bs, hdct, sn, sub, ab, col, dd, k0, k1, k2, k3, k5, hl⟩ := cobj (w := w)
  have hC := (X.keeps F.keep) _ _ hl
  obtain ⟨h, g, d, t, os⟩ := s
  have Fn := PySem.F.excBase_Exception
  have f1 := tc_lookup
  have f2 := tc_bind (.ref 122)
  have hT : (⟨h, g, d, t, os⟩ : Shared).TypeIs (.ref 122) "type" := ⟨_, hC, rfl⟩
  refine wpAny_call (codeAny_of_tree ?_)
  show wpAny _ _ (callAny (.ref 122) _) _ _ _
  repeat (any_goals (first | assumption | with_reducible refine wpAny_loadPart_at hC ?_ | wp_step))
  refine ⟨rfl, ?_⟩
  refine codeAny_call_builtin_at (Code.quiet_builtin _ (by decide +kernel)) entry_typeCall (wpAny_check_type_call_sub hC ?_)
  repeat (first | with_reducible refine wpAny_loadPart_at hC ?_ | with_reducible refine wpAny_madeBy_exc hC ?_ | wp_step)
  refine codeAny_call_builtin_code (Code.quiet_builtin _ Fn.quiet) (new_check Fn (by decide) hC ?_)
  refine new_made Fn (by decide) (by decide) (by decide) hC (hrest := Nat.le_of_ble_eq_true rfl) ?_
  show wpAny _ _ _ _ _ _
  have F2 : Fr h₀ L ((h.push { cls := .type "tuple", data := .seq [Value.str x tx].toArray }).push { cls := .ref 122, data := .fields #[.ref h.objs.size, .none, .none, .none, .bool false, .none] }) m := (F.push _).push _
  have N2 : News h₀ L ((h.push { cls := .type "tuple", data := .seq [Value.str x tx].toArray }).push { cls := .ref 122, data := .fields #[.ref h.objs.size, .none, .none, .none, .bool false, .none] }) ((h.objs.size + 1, excO h.objs.size none) :: news) := by
    have := (News.push F N { cls := .type "tuple", data := .seq [Value.str x tx].toArray }).push (F.push _) (excO h.objs.size none)
    rw [Heap.size_push] at this
    exact news_sub this (sub_top (sub_skip sub_refl))
  have LT : Looks (model PySem.Challenge.rw_pb0246_01.row.prog w) _ (typeOf (.ref (h.objs.size + 1))) (.ref 122) := (Looks.ld (N2 _ List.mem_cons_self).1).andThen .now
  have LI : Looks (model PySem.Challenge.rw_pb0246_01.row.prog w) _ (isInstance (.ref (h.objs.size + 1)) (.ref 122)) true := LT.andThen (looks_mroIn (X.keeps F2.keep) mro122s)
  have hne : ∀ p ∈ news, p.1 ≠ h.objs.size + 1 := fun p hp => Nat.ne_of_lt (Nat.lt_succ_of_lt (Heap.lt_size (N p hp).1))
  refine wpAny_bind (LI _ _ _ _ (fun _ _ z => z) ?_)
  rw [if_neg (by decide)]
  refine wpAny_bind (wpAny_holding ?_)
  unfold callSpecial? specialOf
  refine wpAny_bind (wpAny_bind (LT _ _ _ _ (fun _ _ z => z) (looks_findIn (X.keeps F2.keep) findi _ _ _ _ (fun _ _ z => z) ?_)))
  dsimp only
  refine wpAny_holding (wpAny_bind (bind_fn (X.keeps F2.keep) (.ref (h.objs.size + 1)) fn75 _ _ _ _ (fun _ _ z => z) (wpAny_bind ?_)))
  k_dflt (refine Calls.use (exc_init hne) B F2 X N2 (fun _ z => z) T hk ?_ ?_ ?_)
  · show dp + 1 + 20 < recursionLimit
    walk_at "om"
  · have hc : (Code.builtin "type.__call__" (Args.mk ([Value.ref 122] ++ [Value.str x tx]) [])).cUnits ≤ 100 := by first | exact Nat.le_of_ble_eq_true rfl | (show _ ≤ 100; decide)
    show un + (Code.builtin "type.__call__" (Args.mk ([Value.ref 122] ++ [Value.str x tx]) [])).cUnits + 200 < cLine
    walk_at "om"
  · rintro r nw' h' tk' F' N' ⟨rfl, t2, d2, od, rfl, hn1, hn2, hn3, hn4⟩
    refine wpAny_pure ?_
    show wpAny _ _ _ _ _ _
    dsimp only
    rw [if_neg (by decide)]
    refine wpAny_pure ?_
    exact hret _ _ _ _ F' (news_sub N' (sub_top (sub_top (sub_skip sub_refl)))) ⟨_, _, _, rfl, rfl, fun p hp => ⟨hne p hp, (hn1 p hp).1⟩⟩
end S_E5
section S_E6
/-- an own exception in flight above the frames l: B is what it left untouched -/
noncomputable def RaisedM (h₀ : Heap) (l : List Env) (e : Addr) (news : List (Addr × Obj)) (h : Heap) : Prop :=
  ∃ B t, (∀ b o, h₀.get? b = some o → b ∉ l.filterMap (·.frame) → B.get? b = some o) ∧ (∀ q ∈ news, B.get? q.1 = some q.2 ∧ h₀.get? q.1 = none) ∧ Heap.FlyingW B l e (.ref 122) (.ref t) h
section
variable {M : Model} {A : Around} {E : Value → Shared → Prop} {s' : Shared} {base g : Heap} {outer : List Env} {env : Env} {L e t : Addr} {dd : Option Addr} {m : Str → Option Value} {Q : Unit → Shared → Prop} {news : List (Addr × Obj)}
theorem leave_mine (K : Below A base outer g) (F : Fr g L s'.heap m) (N : News g L s'.heap ((e, excO t dd) :: news)) (hne : ∀ q ∈ news, q.1 ≠ e) (hf : env.frame = some L) (hk : env.scope.kind = .function)
    (hQ : ∀ h', RaisedM g outer e news h' → g.UpToSlots h' → Q () { s' with heap := h' }) :
    wpAny M (A.deeper env) (leaving env (.ref e)) Q E s' := by
  have K' := pushX K F hf hk
  have gL : g.get? L = none := Heap.get?_none_of_le F.above
  have he := N _ List.mem_cons_self
  have hin : ∀ env' ∈ (env :: outer), ∀ b, env'.frame = some b → b ∈ e :: (env :: outer).filterMap (·.frame) := fun env' he' b hb => List.mem_cons_of_mem _ (List.mem_filterMap.mpr ⟨env', he', hb⟩)
  have hmemL : ∀ b, b ∈ (env :: outer).filterMap (·.frame) → b = L ∨ b ∈ outer.filterMap (·.frame) := by
    intro b hb
    rw [List.filterMap_cons, hf] at hb
    rcases List.mem_cons.mp hb with h | h
    · exact .inl h
    · exact .inr h
  have hen : (hideAll s'.heap (e :: (env :: outer).filterMap (·.frame))).get? e = none := hideAll_none _ List.mem_cons_self
  have hB : ∀ b o, g.get? b = some o → b ∉ outer.filterMap (·.frame) → (hideAll s'.heap (e :: (env :: outer).filterMap (·.frame))).get? b = some o := fun b o q nm => hideAll_get _ (F.keep b o q) fun hm => by
    rcases List.mem_cons.mp hm with z | z
    · rw [z, he.2.2] at q; cases q
    · rcases hmemL b z with z | z
      · rw [z, gL] at q; cases q
      · exact nm z
  have hl : ∀ q ∈ news, (hideAll s'.heap (e :: (env :: outer).filterMap (·.frame))).get? q.1 = some q.2 ∧ g.get? q.1 = none := fun q hq => by
    have n := N q (List.mem_cons_of_mem _ hq)
    refine ⟨hideAll_get _ n.1 fun hm => ?_, n.2.2⟩
    rcases List.mem_cons.mp hm with z | z
    · exact hne q hq z
    · rcases hmemL _ z with z | z
      · exact n.2.1 z
      · obtain ⟨o, ho, _⟩ := (K.frames.mem z).2
        rw [n.2.2] at ho; cases ho
  refine wpAny_leaving_firstW (a0 := .ref t) K'.stack (funFrames_hide K'.frames hin) hf he.1 (fun b o q => of_hideAll _ q) hen rfl rfl rfl fun h' hL => ?_
  obtain ⟨k1, ⟨_, _, k2⟩, k3, k4⟩ := hL
  exact hQ h' ⟨_, t, hB, hl, k1, hen, k2, k3⟩ ((Heap.UpToSlots.of_keeps F.keep).trans k4)
end
section
variable {A₀ : Around} {base g G B h₅ : Heap} {outer : List Env} {env : Env} {L : Addr} {m : Str → Option Value}
theorem ground_back (K : Below A₀ base outer g) (F : Fr g L G m) (hf : env.frame = some L) (hBG : ∀ b o, G.get? b = some o → b ∉ (env :: outer).filterMap (·.frame) → B.get? b = some o) (hBh : B.StaysIn h₅) (hsm : G.UpToSlots h₅) :
    ∃ g', KtsTurn (outer.filterMap (·.frame)) g g' ∧ Fr g' L h₅ m ∧ Below A₀ base outer g' := by
  have gL : g.get? L = none := Heap.get?_none_of_le F.above
  obtain ⟨T, S⟩ := kts_turn_at (h := h₅) (fs := outer.filterMap (·.frame)) (g := g)
    (fun b hb => by
      obtain ⟨_, o, ho, _⟩ := K.frames.mem hb
      exact ⟨o, ho⟩)
    (fun b o e nm => hBh b o (hBG b o (F.keep b o e) (fun hm => by
      rw [List.filterMap_cons, hf] at hm
      rcases List.mem_cons.mp hm with z | z
      · rw [z, gL] at e; cases e
      · exact nm z)))
    (fun b o e hm => by
      obtain ⟨_, o', ho', hd⟩ := K.frames.mem hm
      rw [e] at ho'
      cases ho'
      exact hsm b o (F.keep b o e) hd)
  refine ⟨_, T, ⟨hsm.ns F.ns, S, by rw [T.size]; exact F.above⟩, ⟨K.stack, fun b o e => T.other b o (K.stays b o e) (fun hm => by
    rw [(K.frames.mem hm).1] at e; cases e), K.frames.of_keeps fun b o e _ => ?_⟩⟩
  obtain ⟨sl, hs⟩ := T.up e
  exact ⟨_, hs, rfl⟩
end
theorem handle_mine {w : World} {A : Around} {E : Value → Shared → Prop} {s : Shared} {env : Env} {e : Addr} {t : Expr} {b₀ : Stmt} {suite : List Stmt} {pos : Pos} {rest : List ExceptHandler} {Q : Flow → Shared → Prop}
    (h : wpAny (model PySem.Challenge.rw_pb0246_01.row.prog w) (A.mark (some (.ref e))) (eval t env) (fun c s₁ => c = .ref 122 ∧ (hd.heap_39 w.params).In s₁.heap ∧ (∃ oe, s₁.heap.get? e = some oe ∧ oe.cls = .ref 122) ∧
      wpAny (model PySem.Challenge.rw_pb0246_01.row.prog w) (A.mark (some (.ref e))) (setFlight (.ref e) none) (fun _ s₂ => wpAny (model PySem.Challenge.rw_pb0246_01.row.prog w) (A.mark (some (.ref e))) (execs (b₀ :: suite) env) Q (notedBy (model PySem.Challenge.rw_pb0246_01.row.prog w) (A.mark (some (.ref e))) env (cameBackBy (model PySem.Challenge.rw_pb0246_01.row.prog w) A env E)) s₂) (notedBy (model PySem.Challenge.rw_pb0246_01.row.prog w) (A.mark (some (.ref e))) env (cameBackBy (model PySem.Challenge.rw_pb0246_01.row.prog w) A env E)) s₁) (notedBy (model PySem.Challenge.rw_pb0246_01.row.prog w) (A.mark (some (.ref e))) env (cameBackBy (model PySem.Challenge.rw_pb0246_01.row.prog w) A env E)) s) :
    wpAny (model PySem.Challenge.rw_pb0246_01.row.prog w) A (handleBy (.ref e) env (.ExceptHandler (some t) none (b₀ :: suite) pos :: rest)) Q E s := by
  refine wpAny_handleBy_cons (codeAny_handlers_test (wpAny_mono h (fun c s₁ h₁ => ?_) fun _ _ y => y)) (by intro q; cases q)
  obtain ⟨rfl, X, ⟨oe, he, hcls⟩, hk⟩ := h₁
  obtain ⟨nm, q, Ns, bs, hdct, sn, sub, ab, col, dd, k0, k1, k2, k3, k5, hl⟩ := cobj (w := w)
  have hC := X _ _ hl
  obtain ⟨hp, g, d, tk, os⟩ := s₁
  exact wpAny_excMatches_sub_self hC he hcls (by decide) (codeAny_handlers_suite hk)
theorem step_name {w : World} : nsIn (hd.heap_39 w.params) mainGlobals (Str.ofString "StepFault") = some (some (.ref 122)) := by k_is
theorem caught_mine {w : World} {mean : ExcName → Option Value} {mg mb : Str → Option Value} {A₀ : Around} {E : Value → Shared → Prop} {s' : Shared} {base g G : Heap} {outer : List Env} {cn : Str} {cs : Scope} {L a e : Addr} {ccd : Value} {cl : List (Str × Addr)} {m : Str → Option Value} {b₀ : Stmt} {suite : List Stmt} {pos np : Pos} {rest : List ExceptHandler} {Q : Flow → Shared → Prop} {news : List (Addr × Obj)}
    (R : RaisedM G (envX cn cs L a ccd cl :: outer) e news s'.heap) (F : Fr g L G m) (K : Below A₀ base outer g) (hsm : G.UpToSlots s'.heap) (XB : (hd.heap_39 w.params).In base) (TB : Top topProg LL mean mg mb base) (D : KtsDicts (outer.filterMap (·.frame)) g)
    (hk : cs.kind = .function) (hx : (envX cn cs L a ccd cl).kindOf (Str.ofString "StepFault") = some .globalImplicit)
    (k : ∀ h' g', KtsTurn (outer.filterMap (·.frame)) g g' → Fr g' L h' m → News g' L h' news → Below A₀ base outer g' → (hd.heap_39 w.params).In g' → Top topProg LL mean mg mb g' → KtsDicts (outer.filterMap (·.frame)) g' →
      wpAny (model PySem.Challenge.rw_pb0246_01.row.prog w) ((A₀.deeper (envX cn cs L a ccd cl)).mark (some (.ref e))) (execs (b₀ :: suite) (envX cn cs L a ccd cl)) Q (notedBy (model PySem.Challenge.rw_pb0246_01.row.prog w) ((A₀.deeper (envX cn cs L a ccd cl)).mark (some (.ref e))) (envX cn cs L a ccd cl) (cameBackBy (model PySem.Challenge.rw_pb0246_01.row.prog w) (A₀.deeper (envX cn cs L a ccd cl)) (envX cn cs L a ccd cl) E)) { s' with heap := h' }) :
    wpAny (model PySem.Challenge.rw_pb0246_01.row.prog w) (A₀.deeper (envX cn cs L a ccd cl)) (noteFrame (.ref e) (envX cn cs L a ccd cl))
      (fun _ s₂ => wpAny (model PySem.Challenge.rw_pb0246_01.row.prog w) (A₀.deeper (envX cn cs L a ccd cl)) (setFlight (.ref e) none) (fun _ s₃ =>
        wpAny (model PySem.Challenge.rw_pb0246_01.row.prog w) (A₀.deeper (envX cn cs L a ccd cl)) (handleBy (.ref e) (envX cn cs L a ccd cl) (.ExceptHandler (some (.Name (Str.ofString "StepFault") np)) none (b₀ :: suite) pos :: rest)) Q E s₃) E s₂) E s' := by
  obtain ⟨B, t, hBG, hl, hfl⟩ := R
  have hL : B.get? L = none := by
    obtain ⟨_, ⟨L', _, hf, hn', _⟩, _⟩ := hfl.2.2.1
    obtain rfl : L = L' := Option.some.inj hf
    exact hn'
  refine wpAny_looks_onW (Around.frames_deeper K.stack) rfl hfl fun h₄ hheld₄ hsm₄ => ?_
  refine wpAny_landsW hheld₄ fun h₅ hheld hsm₅' => ?_
  have hsm₅ := hsm₄.trans hsm₅'
  obtain ⟨g₅, T₅, F₅, K₅⟩ := ground_back K F rfl hBG hheld.1 (hsm.trans hsm₅)
  have X₅ := XB.keeps K₅.stays
  have P₅ : TopRead topProg LL mg mb g₅ := topRead_of (TB.keeps K₅.stays)
  obtain ⟨ob, hob, hobc⟩ := hheld.there
  refine handle_mine (nameX_K F₅ X₅ P₅ step_name ⟨rfl, X₅.keeps F₅.keep, ⟨ob, hob, hobc⟩, ?_⟩ hk hx)
  refine lands_againW hheld fun h₆ hfl₆ hsm₆ => ?_
  obtain ⟨g₆, T₆, F₆, K₆⟩ := ground_back K F rfl hBG hfl₆.1 ((hsm.trans hsm₅).trans hsm₆)
  refine k h₆ g₆ T₆ F₆ (fun q hq => ⟨hfl₆.1 _ _ (hl q hq).1, fun z => ?_, T₆.none_ _ ?_⟩) K₆ (XB.keeps K₆.stays) (TB.keeps K₆.stays) (D.turn T₆)
  · have := (hl q hq).1; rw [z, hL] at this; cases this
  · cases z : g.get? q.1 with
    | none => rfl
    | some o => have := F.keep _ _ z; rw [(hl q hq).2] at this; cases this
end S_E6
section S_E7
theorem raise_own {w : World} {A : Around} {E : Value → Shared → Prop} {s : Shared} {x : Sem Value} {env : Env} {Q : Flow → Shared → Prop} (hh : A.handled = none)
    (h : wpAny (model PySem.Challenge.rw_pb0246_01.row.prog w) A x (fun v s₁ => ∃ e t dd, v = .ref e ∧ (hd.heap_39 w.params).In s₁.heap ∧ s₁.heap.get? e = some (excO t dd) ∧ E (.ref e) s₁) E s) :
    wpAny (model PySem.Challenge.rw_pb0246_01.row.prog w) A (raiseStmt env (some x) none) Q E s := by
  obtain ⟨nm, q, Ns, bs, hdct, sn, sub, ab, col, dd', k0, k1, k2, k3, k5, hl⟩ := cobj (w := w)
  have hcB : (Value.ref 122 :: [.ref 85, .type "Exception", .type "BaseException", .type "object"]).contains (.type "BaseException") = true := by decide
  unfold raiseStmt
  refine wpAny_bind (wpAny_mono h (fun v s₁ h₁ => ?_) fun _ _ x => x)
  obtain ⟨e, t, dd, rfl, X, he, hE⟩ := h₁
  have hC := X _ _ hl
  unfold excO at he
  obtain ⟨hp, g, d, tk, os⟩ := s₁
  repeat (first | with_reducible refine wpAny_loadPart_at he ?_ | with_reducible refine wpAny_loadPart_at hC ?_ | (with_reducible refine wpAny_isSubtype_exc hC ?_; rw [hcB]) | wp_step)
  exact wpAny_raiseNew_none hh hE
theorem raise_stmt {w : World} {A : Around} {E : Value → Shared → Prop} {s : Shared} {ex : Expr} {env : Env} {pos : Pos} {Q : Flow → Shared → Prop} (hh : A.handled = none)
    (h : wpAny (model PySem.Challenge.rw_pb0246_01.row.prog w) A (eval ex env) (fun v s₁ => Halt (∃ e t dd, v = .ref e ∧ (hd.heap_39 w.params).In s₁.heap ∧ s₁.heap.get? e = some (excO t dd) ∧ E (.ref e) s₁)) E s) :
    wpAny (model PySem.Challenge.rw_pb0246_01.row.prog w) A (exec (.Raise (some ex) none pos) env) Q E s := by
  rw [arm_exec_Raise]
  first
    | exact wpAny_bind (wpAny_standAt (raise_own hh (wpAny_mono h (fun v s₃ h₃ => h₃.out) fun _ _ x => x)))
    | (simp only [evalOpt, Option.map]; exact wpAny_bind (wpAny_standAt (raise_own hh (wpAny_bind (wpAny_mono h (fun v s₃ h₃ => wpAny_bind (wpAny_standAt (wpAny_pure h₃.out))) fun _ _ x => x)))))
    | exact wpAny_bind (wpAny_standAt (raise_own hh (wpAny_bind (wpAny_mono h (fun v s₃ h₃ => wpAny_bind (wpAny_standAt (wpAny_pure h₃.out))) fun _ _ x => x))))
end S_E7
section S_R0
noncomputable abbrev doArgs (p : Pos) : Arguments := { posonlyargs := [], args := [{ arg := Str.ofString "statement", annotation := none, pos := p }], vararg := none, kwonlyargs := [], kw_defaults := [], kwarg := none, defaults := [] }
noncomputable abbrev doBody : List Stmt := [.Expr (.Call (.Attribute (.Name (Str.ofString "done") ⟨236, 8, 236, 12⟩) (Str.ofString "append") ⟨236, 8, 236, 19⟩) [.Subscript (.Name (Str.ofString "statement") ⟨236, 20, 236, 29⟩) (.Constant (Const.int 1) 0 ⟨236, 30, 236, 31⟩) ⟨236, 20, 236, 32⟩] [] ⟨236, 8, 236, 33⟩) ⟨236, 8, 236, 33⟩, .Return (some (.Constant (Const.str (Str.ofString "")) 0 ⟨237, 15, 237, 17⟩)) ⟨237, 8, 237, 17⟩]
noncomputable abbrev teArgs : Arguments := { posonlyargs := [], args := [{ arg := Str.ofString "cond", annotation := none, pos := ⟨238, 33, 238, 37⟩ }], vararg := none, kwonlyargs := [], kw_defaults := [], kwarg := none, defaults := [] }
noncomputable abbrev teScope : Scope := { kind := .function, names := [(Str.ofString "cond", .local), (Str.ofString "cells", .free), (Str.ofString "done", .free), (Str.ofString "len", .globalImplicit)], isGenerator := false, isCoroutine := false, more := [] }
noncomputable abbrev teBody : Expr := .Compare (.BinOp (.BinOp (.Subscript (.Name (Str.ofString "cells") ⟨238, 40, 238, 45⟩) (.BinOp (.Call (.Name (Str.ofString "len") ⟨238, 46, 238, 49⟩) [.Name (Str.ofString "done") ⟨238, 50, 238, 54⟩] [] ⟨238, 46, 238, 55⟩) .Mod (.Call (.Name (Str.ofString "len") ⟨238, 58, 238, 61⟩) [.Name (Str.ofString "cells") ⟨238, 62, 238, 67⟩] [] ⟨238, 58, 238, 68⟩) ⟨238, 46, 238, 68⟩) ⟨238, 40, 238, 69⟩) .Add (.Call (.Name (Str.ofString "len") ⟨238, 72, 238, 75⟩) [.Name (Str.ofString "done") ⟨238, 76, 238, 80⟩] [] ⟨238, 72, 238, 81⟩) ⟨238, 40, 238, 81⟩) .Mod (.Constant (Const.int 2) 0 ⟨238, 85, 238, 86⟩) ⟨238, 39, 238, 86⟩) [.Eq] [.Constant (Const.int 0) 0 ⟨238, 90, 238, 91⟩] ⟨238, 39, 238, 91⟩
noncomputable abbrev doScope : Scope := { kind := .function, names := [(Str.ofString "statement", .local), (Str.ofString "done", .free)], isGenerator := false, isCoroutine := false, more := [] }
structure DoOk (w : World) (mean : ExcName → Option Value) (mg mb : Str → Option Value) (f dl : Addr) (led : List (Addr × Obj)) : Prop where
  fn : ∃ oc od fd sl, (f, (⟨oc, od, .func fd, sl⟩ : Obj)) ∈ led
  ok : ∀ news, (∀ p ∈ led, p ∈ news) → (∀ p ∈ news, p.1 ≠ dl) → ∀ (zs : List Value) (n : Nat) (v : Value) (p : Int), DatIn news v (.tuple [sD "display", .int p]) → zs.length ≤ 100 →
    Calls w mean mg mb 4 60 ((dl, listOf zs.toArray n) :: news) f [v] (fun r news' => ∃ t tp, r = .str (Str.ofString "") t ∧ news' = (dl, listOf (zs ++ [Value.int p tp]).toArray (n + 1)) :: news)
structure TestOk (w : World) (mean : ExcName → Option Value) (mg mb : Str → Option Value) (f dl : Addr) (ns : List Int) (led : List (Addr × Obj)) : Prop where
  fn : ∃ oc od fd sl, (f, (⟨oc, od, .func fd, sl⟩ : Obj)) ∈ led
  ok : ∀ news, (∀ p ∈ led, p ∈ news) → ∀ (zs : List Value) (n : Nat) (v : Value), zs.length ≤ 100 →
    Calls w mean mg mb 4 60 ((dl, listOf zs.toArray n) :: news) f [v] (fun r news' => r = .bool (decide (((ns.getD (zs.length % ns.length) 0) + zs.length) % 2 = 0)) ∧ news' = (dl, listOf zs.toArray n) :: news)
theorem do_spec {w : World} {mean : ExcName → Option Value} {mg mb : Str → Option Value} {q : Str} {f dc c' dl : Addr} {doc pm ctv : Value} {oa oc : Obj} {vsc : Array Value} {t : Tok} {led : List (Addr × Obj)}
    (h1 : (f, fnMade (Str.ofString "do_one") q (doArgs ⟨235, 15, 235, 24⟩) doBody doScope [(Str.ofString "done", dc)] doc pm c' ctv) ∈ led)
    (h2 : (dc, oa) ∈ led) (h3 : oa.data = .cell (some (.ref dl))) (h5 : (c', oc) ∈ led) (h6 : oc.data = .fields vsc) (h7 : vsc[1]? = some (.str q t)) : DoOk w mean mg mb f dl led := by
  refine ⟨⟨_, _, _, _, h1⟩, ?_⟩
  intro news hs hoff zs n v p hv hz dp un gd cn cs a ccd cl outer A₀ base h₀ L m s Q E B F X N T hk hd hu hret
  cases hv with
  | tuple hm hall =>
  cases hall with
  | cons h0 hall =>
  cases hall with
  | cons h1' hall =>
  cases hall
  cases h0
  cases h1'
  replace h1 := hs _ h1; replace h2 := hs _ h2; replace h5 := hs _ h5
  clear hs
  refine wpAny_call ?_
  k_dflt (refine code_nest B F X N T rfl rfl hk (List.mem_cons_of_mem _ h1) (codeRec_in N (List.mem_cons_of_mem _ h5) h6 h7) (by ktr_room) (BindsTo.of_eq rfl) (locs rfl) ?_ rfl rfl rfl (by decide))
  intro g' L' h' FG' F' N' B' X' T'
  dsimp only
  k_steps
  (with_reducible rename News _ _ _ _ => NN)
  rw [List.push_toArray] at NN
  exact hret _ _ _ _ (by assumption) NN ⟨_, _, rfl, rfl⟩
theorem test_spec {w : World} {mean : ExcName → Option Value} {mg mb : Str → Option Value} {q : Str} {f cc dc c' dl cel : Addr} {pm ctv : Value} {oa ob oc : Obj} {vsc : Array Value} {t : Tok} {ns : List Int} {cvs : List Value} {cn : Nat} {led : List (Addr × Obj)}
    (h1 : (f, kla_obj (Str.ofString "<lambda>") q teArgs teBody teScope [(Str.ofString "done", dc), (Str.ofString "cells", cc)] pm c' ctv) ∈ led)
    (h2 : (dc, oa) ∈ led) (h3 : oa.data = .cell (some (.ref dl))) (h4 : (cc, ob) ∈ led) (h4' : ob.data = .cell (some (.ref cel))) (h8 : (cel, listOf cvs.toArray cn) ∈ led) (hc : IntsAre cvs ns ∧ 0 < ns.length ∧ ns.length ≤ 60) (h5 : (c', oc) ∈ led) (h6 : oc.data = .fields vsc) (h7 : vsc[1]? = some (.str q t)) : TestOk w mean mg mb f dl ns led := by
  refine ⟨⟨_, _, _, _, h1⟩, ?_⟩
  intro news hs zs n v hz dp un gd cn cs a ccd cl outer A₀ base h₀ L m s Q E B F X N T hk hd hu hret
  replace h1 := hs _ h1; replace h2 := hs _ h2; replace h4 := hs _ h4; replace h8 := hs _ h8; replace h5 := hs _ h5
  clear hs
  have hcl := hc.1.length
  have hsz1 : zs.length ≤ 1000 := by walk_at "om"
  have hsz2 : cvs.length ≤ 1000 := by walk_at "om"
  refine wpAny_call ?_
  k_dflt (refine kla_code B F X N T rfl rfl hk (List.mem_cons_of_mem _ h1) (codeRec_in N (List.mem_cons_of_mem _ h5) h6 h7) (by ktr_room) rfl (locs rfl) ?_ rfl rfl rfl (by decide))
  intro g' L' h' FG' F' N' B' X' T'
  dsimp only
  k_steps
  have hfm : ((zs.length : Int)).fmod (cvs.length : Int) = ((zs.length % ns.length : Nat) : Int) := by
    rw [hcl, Int.fmod_eq_emod_of_nonneg _ (by walk_at "om")]; rfl
  have hlt : zs.length % ns.length < ns.length := Nat.mod_lt _ hc.2.1
  rw [hfm]
  k_dflt (refine item_anyK (News.isList (by assumption) (List.mem_cons_of_mem _ h8)) hc.1 (by walk_at "om") (by walk_at "om") (by walk_at "om") ?_ (by with_unfolding_all rfl))
  intro t2
  rw [Int.toNat_natCast]
  k_steps
  refine hret _ _ _ _ (by assumption) (by assumption) ⟨?_, rfl⟩
  rw [Int.fmod_eq_emod_of_nonneg _ (by walk_at "om")]
  rfl
end S_R0
section G_R1_R2
local macro_rules | `(tactic| walk_at "eval Name") => `(tactic| (k_here; name_kind "local"; (with_reducible rename Fr _ _ _ _ => kF); k_dflt (refine' nameX_L kF ?c ?_ ?a ?b; (case a => rfl); (case b => rfl); (case c => assumption); k_whole)))
local macro_rules | `(tactic| walk_at "exec Raise some none") => `(tactic| refine Halt.out ?_)
local macro_rules | `(tactic| walk_at "call ref") => `(tactic| ((with_reducible rename DoOk _ _ _ _ _ _ _ => hDo); with_reducible show wpAny _ _ (call (Value.ref _) [_] _) _ _ _; refine Halt.out ?_))
section S_R1
local macro_rules | `(tactic| walk_at "call builtin:len") => `(tactic| (k_here; (with_reducible show wpAny _ _ (call (Value.builtin "len") [Value.ref _]) _ _ _); k_dflt (refine' len_tup (News.isTup (by k_asm) (by k_mem)) ?fit ?_; (case fit => omega))))
local macro_rules | `(tactic| walk_at "subscriptTail") => `(tactic| (k_here; (with_reducible show wpAny _ _ (subscriptTail _ _ (Value.ref _) (Value.int _ _)) _ _ _); k_dflt (refine' item_tupV (News.isTup (by k_asm) (by k_mem)) ?hx ?fit ?_; (case hx => with_reducible assumption); (case fit => omega))))
theorem len_tup {prog : Program} {w : World} {A : Around} {E : Value → Shared → Prop} {s : Shared} {l : Addr} {vs : List Value} {Q : Value → Shared → Prop} (hl : IsTup s.heap l vs.toArray) (hfit : vs.length < 2 ^ 63)
    (h : Q (.int (vs.length : Int) (s.toks + 1)) { s with toks := s.toks + 1 + 1 }) : wpAny (model prog w) A (call (.builtin "len") [.ref l]) Q E s :=
  len_tuple hl (by simpa using (by walk_at "om" : (vs.length : Int) < 2 ^ 63)) (by simpa using h)
theorem item_tupV {prog : Program} {w : World} {A : Around} {E : Value → Shared → Prop} {s : Shared} {value slice : Expr} {t : Addr} {vs : List Value} {pl : Nat} {u : Tok} {x : Value} {Q : Value → Shared → Prop} (ht : IsTup s.heap t vs.toArray) (hx : vs[pl]? = some x) (hfit : (pl : Int) < 2 ^ 63) (h : Q x s)
    (hs : subscripted slice false (.ref t) (.int (pl : Int) u) = operate [.ref t, .int (pl : Int) u] (getItem (.ref t) (.int (pl : Int) u)) := by with_unfolding_all rfl) :
    wpAny (model prog w) A (subscriptTail value slice (.ref t) (.int (pl : Int) u)) Q E s := by
  have hlt := (List.getElem?_eq_some_iff.mp hx).1
  have hlt' : (pl : Int) < (vs.length : Int) := Int.ofNat_lt.mpr hlt
  refine item_tupleT (j := pl) ht (by walk_at "om") hfit ?_ hx h hs
  unfold seqIndex?
  have h1 : ¬ ((pl : Int) < 0) := by walk_at "om"
  simp [h1, hlt]
theorem item_dictV {prog : Program} {w : World} {A : Around} {E : Value → Shared → Prop} {s : Shared} {h₀ : Heap} {L d : Addr} {ot : Obj} {news : List (Addr × Obj)} {kvs : List (Str × Value)} {value slice : Expr} {x : Str} {t : Tok} {v : Value} {Q : Value → Shared → Prop} (N : News h₀ L s.heap news) (hm : (d, ot) ∈ news) (hd : Obj.IsDictOf (PySem.strKind prog w) ot kvs) (hv : valueAt kvs x = some v) (h : Q v { s with toks := s.toks + 1 })
    (hs : subscripted slice false (.ref d) (.str x t) = operate [.ref d, .str x t] (getItem (.ref d) (.str x t)) := by with_unfolding_all rfl) (hg : ∀ r, letTemporaryGo value (.ref d) r = pure () := by intro _; with_unfolding_all rfl) :
    wpAny (model prog w) A (subscriptTail value slice (.ref d) (.str x t)) Q E s := by
  have hD : s.heap.DictOf (PySem.strKind prog w) d kvs := Heap.dictOf_iff.mpr ⟨ot, N.get hm, hd⟩
  exact subscriptTail_builtin hD.typeIs slot_dict_getitem.lookup (wpAny_getItem_of (strKind_is prog w x t) hD.mapOf hv h) hs hg
noncomputable def dispOf : Dat → Int
  | .tuple [_, .int p] => p
  | _ => 0
/-- the run: fuel, place, done -/
noncomputable def runR (os : List Op) (ns : List Int) : Nat → Nat → List Int → Bool × List Int
  | 0, _, d => (false, d)
  | k + 1, pl, d => match os[pl]? with
    | some (.jump l) => runR os ns k l.toNat d
    | some (.test _ l) => if ((ns.getD (d.length % ns.length) 0) + d.length) % 2 = 0 then runR os ns k (pl + 1) d else runR os ns k l.toNat d
    | some (.deed x) => runR os ns k (pl + 1) (d ++ [dispOf x])
    | some (.stop _) => (true, d)
    | _ => (false, d)
noncomputable def runOp (n i : Nat) : Op → Prop
  | .jump l => 0 ≤ l ∧ l < n
  | .test _ l => 0 ≤ l ∧ l < n ∧ i + 1 < n
  | .deed x => (∃ p, x = .tuple [sD "display", .int p]) ∧ i + 1 < n
  | .stop x => x = sD "end"
  | _ => False
noncomputable def RunOps (os : List Op) : Prop := 0 < os.length ∧ ∀ i o, os[i]? = some o → runOp os.length i o
structure MS where
  t1 : Tok
  t2 : Tok
  t3 : Tok
  t4 : Tok
  t5 : Tok
  t6 : Tok
  t7 : Tok
  pl : Int
  plt : Tok
  st : Value
  fr : Value
  key : Value
  word : Str
  wt : Tok
structure TT where
  a1 : Tok
  a2 : Tok
  a3 : Tok
  a4 : Tok
  a5 : Tok
  a6 : Tok
  a7 : Tok
  a8 : Tok
  a9 : Tok
  a10 : Tok
  a11 : Tok
  a12 : Tok
  a13 : Tok
noncomputable abbrev mdict (w : World) (ci di : Addr) (c : MS) : Obj := dictOf [⟨PyData.keyHash w.params (Str.ofString "code"), .str (Str.ofString "code") c.t1, .ref ci⟩, ⟨PyData.keyHash w.params (Str.ofString "deeds"), .str (Str.ofString "deeds") c.t2, .ref di⟩, ⟨PyData.keyHash w.params (Str.ofString "place"), .str (Str.ofString "place") c.t3, .int c.pl c.plt⟩,
  ⟨PyData.keyHash w.params (Str.ofString "stack"), .str (Str.ofString "stack") c.t4, c.st⟩, ⟨PyData.keyHash w.params (Str.ofString "frames"), .str (Str.ofString "frames") c.t5, c.fr⟩, ⟨PyData.keyHash w.params (Str.ofString "key"), .str (Str.ofString "key") c.t6, c.key⟩, ⟨PyData.keyHash w.params (Str.ofString "word"), .str (Str.ofString "word") c.t7, .str c.word c.wt⟩] 7
structure RS where
  ms : MS
  zs : List Value
  n : Nat
  k : Nat
  kt : Tok
  opv : Option Value
noncomputable def RSt (os : List Op) (ns : List Int) (c : RS) : Prop :=
  c.k ≤ 40 ∧ ∃ ds, IntsAre c.zs ds ∧ ds.length ≤ c.k ∧ ((c.ms.word = Str.ofString "" ∧ ∃ pl : Nat, c.ms.pl = pl ∧ pl < os.length ∧ runR os ns 40 0 [] = runR os ns (40 - c.k) pl ds) ∨ (c.ms.word = Str.ofString "end" ∧ runR os ns 40 0 [] = (true, ds)))
def CallsE (w : World) (mean : ExcName → Option Value) (mg mb : Str → Option Value) (dk uk : Nat) (news : List (Addr × Obj)) (f : Addr) (vs : List Value) (Post : Value → List (Addr × Obj) → Prop) (PostE : List (Addr × Obj) → Prop) : Prop :=
  ∀ (dp un : Nat) (gd : Option (List Code)) (cn : Str) (cs : Scope) (a : Addr) (ccd : Value) (cl : List (Str × Addr)) (outer : List Env) (A₀ : Around) (base h₀ : Heap) (L : Addr) (m : Str → Option Value) (s : Shared) (Q E : Value → Shared → Prop),
    Below A₀ base outer h₀ → Fr h₀ L s.heap m → (hd.heap_39 w.params).In h₀ → News h₀ L s.heap news → Top topProg LL mean mg mb h₀ → cs.kind = .function → dp + dk < recursionLimit → un + uk < cLine →
    (∀ r news' h' tk', Fr h₀ L h' m → News h₀ L h' news' → Post r news' → Q r { s with heap := h', toks := tk' }) →
    (∀ g e news' h' tk', Fr h₀ L g m → RaisedM g (envX cn cs L a ccd cl :: outer) e news' h' → g.UpToSlots h' → PostE news' → E (.ref e) { s with heap := h', toks := tk' }) →
    wpAny (model PySem.Challenge.rw_pb0246_01.row.prog w) (ktrTop dp un gd cn cs L a ccd cl outer) (call (.ref f) vs) Q E s
/-- the deeds and the code in the ledger -/
structure RunLed (rest : List (Addr × Obj)) (ci di ta f1 f2 : Addr) (vs : List Value) : Prop where
  code : ∃ cd k1 k2 t1 t2 tb tn, (ci, instObj 38 cd) ∈ rest ∧ (cd, dictOf [⟨k1, .str (Str.ofString "ops") t1, .ref ta⟩, ⟨k2, .str (Str.ofString "begins") t2, tb⟩] 2) ∈ rest ∧ (ta, ({ cls := .type "tuple", data := .seq vs.toArray tn } : Obj)) ∈ rest
  deeds : ∃ dd k1 k2 k3 k4 t1 t2 t3 t4 v3 v4, (di, instObj 402 dd) ∈ rest ∧ (dd, dictOf [⟨k1, .str (Str.ofString "do") t1, .ref f1⟩, ⟨k2, .str (Str.ofString "test") t2, .ref f2⟩, ⟨k3, .str (Str.ofString "number") t3, v3⟩, ⟨k4, .str (Str.ofString "put") t4, v4⟩] 4) ∈ rest
theorem swap2 {α : Type} (a b : α) {r : List α} : ∀ p ∈ a :: b :: r, p ∈ b :: a :: r := by
  intro p hp; simp only [List.mem_cons] at hp ⊢; rcases hp with h | h | h <;> simp [h]
theorem perm7 {α : Type} (a b c d e f g x y : α) {r : List α} : ∀ p ∈ x :: y :: a :: b :: c :: d :: e :: f :: g :: r, p ∈ a :: b :: c :: d :: e :: f :: g :: x :: y :: r := by
  intro p hp; simp only [List.mem_cons] at hp ⊢; rcases hp with h | h | h | h | h | h | h | h | h | h <;> simp [h]
theorem run_loop_start {P : Prop} {w : World} {g1 hx : Heap} {L1 ci di dl mi md tab : Addr} {ot : Obj} {t1 t2 t3 t4 t5 t6 t7 plt wt tks : Tok} {st fr key : Value} {mq : Str → Option Value} {e2 e3 e4 e5 e6 : Addr × Obj} {n0 : Nat} {rest : List (Addr × Obj)} {a : TT}
    (FZ : Fr g1 L1 hx (fun y => if y = Str.ofString "steps" then some (.int 0 tks) else if y = Str.ofString "table" then some (.ref tab) else if y = Str.ofString "machine" then some (.ref mi) else mq y))
    (NZ : News g1 L1 hx ((tab, ot) :: e2 :: e3 :: e4 :: e5 :: e6 :: (mi, instObj 269 md) :: (md, mdict w ci di ⟨t1, t2, t3, t4, t5, t6, t7, 0, plt, st, fr, key, Str.ofString "", wt⟩) :: (dl, listOf #[] n0) :: rest))
    (hlo : (tab == sysModules) = false) (hdict : Obj.IsDictOf (PySem.strKind PySem.Challenge.rw_pb0246_01.row.prog w) ot (strPairs [(Value.str (Str.ofString "push") a.a1, Value.ref 294), (Value.str (Str.ofString "calc") a.a2, Value.ref 294), (Value.str (Str.ofString "put") a.a3, Value.ref 301), (Value.str (Str.ofString "do") a.a4, Value.ref 308), (Value.str (Str.ofString "key") a.a5, Value.ref 315), (Value.str (Str.ofString "test") a.a6, Value.ref 322), (Value.str (Str.ofString "jump") a.a7, Value.ref 329), (Value.str (Str.ofString "choose") a.a8, Value.ref 336), (Value.str (Str.ofString "perform") a.a9, Value.ref 343), (Value.str (Str.ofString "leave") a.a10, Value.ref 350), (Value.str (Str.ofString "count") a.a11, Value.ref 357), (Value.str (Str.ofString "less") a.a12, Value.ref 364), (Value.str (Str.ofString "stop") a.a13, Value.ref 371)]))
    (hoff : ∀ p ∈ (tab, ot) :: e2 :: e3 :: e4 :: e5 :: e6 :: (mi, instObj 269 md) :: rest, @Ne Nat p.1 md ∧ @Ne Nat p.1 dl) (hne : @Ne Nat md dl)
    (k : ∀ (mi md tab : Addr) (ot : Obj) (c0 : MS) (tl : List (Addr × Obj)) (tks : Tok) (mq' : Str → Option Value) (a : TT), Fr g1 L1 hx (fun y => if y = Str.ofString "steps" then some (.int 0 tks) else if y = Str.ofString "table" then some (.ref tab) else if y = Str.ofString "machine" then some (.ref mi) else mq' y) →
      News g1 L1 hx ((md, mdict w ci di c0) :: (dl, listOf #[] n0) :: tl) → (tab == sysModules) = false → Obj.IsDictOf (PySem.strKind PySem.Challenge.rw_pb0246_01.row.prog w) ot (strPairs [(Value.str (Str.ofString "push") a.a1, Value.ref 294), (Value.str (Str.ofString "calc") a.a2, Value.ref 294), (Value.str (Str.ofString "put") a.a3, Value.ref 301), (Value.str (Str.ofString "do") a.a4, Value.ref 308), (Value.str (Str.ofString "key") a.a5, Value.ref 315), (Value.str (Str.ofString "test") a.a6, Value.ref 322), (Value.str (Str.ofString "jump") a.a7, Value.ref 329), (Value.str (Str.ofString "choose") a.a8, Value.ref 336), (Value.str (Str.ofString "perform") a.a9, Value.ref 343), (Value.str (Str.ofString "leave") a.a10, Value.ref 350), (Value.str (Str.ofString "count") a.a11, Value.ref 357), (Value.str (Str.ofString "less") a.a12, Value.ref 364), (Value.str (Str.ofString "stop") a.a13, Value.ref 371)]) →
      (mi, instObj 269 md) ∈ tl → (tab, ot) ∈ tl → (∀ p ∈ rest, p ∈ tl) → (c0.pl = 0 ∧ c0.word = Str.ofString "") → mq' = mq → (∀ p ∈ tl, @Ne Nat p.1 md ∧ @Ne Nat p.1 dl) → @Ne Nat md dl → P) : P :=
  k mi md tab ot ⟨t1, t2, t3, t4, t5, t6, t7, 0, plt, st, fr, key, Str.ofString "", wt⟩ _ tks mq a FZ (news_sub NZ (perm7 _ _ _ _ _ _ _ _ _)) hlo hdict (by simp) (by simp) (fun p hp => by simp [hp]) ⟨rfl, rfl⟩ rfl hoff hne
end S_R1
section S_R2
local macro_rules | `(tactic| walk_at "call builtin:len") => `(tactic| (k_here; (with_reducible show wpAny _ _ (call (Value.builtin "len") [Value.ref _]) _ _ _); k_dflt (refine' len_tup (News.isTup (by k_asm) (by k_mem)) ?fit ?_; (case fit => omega))))
local macro_rules | `(tactic| walk_at "subscriptTail") => `(tactic| (k_here; (with_reducible show wpAny _ _ (subscriptTail _ _ (Value.ref _) (Value.int _ _)) _ _ _); k_dflt (refine' item_tupV (News.isTup (by k_asm) (by k_mem)) ?hx ?fit ?_; (case hx => with_reducible assumption); (case fit => omega))))
local macro_rules | `(tactic| walk_at "ite") => `(tactic| (k_here; first | rw [if_neg (show ¬ (Str.ofString _ == Str.ofString _) = true by decide)] | rw [if_pos (show (Str.ofString _ == Str.ofString _) = true by decide)]))
local macro_rules | `(tactic| walk_at "getMethod ref") => `(tactic| (k_here; k_dflt (refine' kmu_own ?k1 ?k2 ?k3 ?k4 ?k5 ?_; (case k1 => k_asm); (case k2 => k_asm); (case k3 => k_inst); (case k4 => k_is); (case k5 => k_is); k_whole)))
local macro_rules | `(tactic| walk_at "subscriptTail Name") => `(tactic| ((with_reducible show wpAny _ _ (subscriptTail _ _ (Value.ref _) (Value.str _ _)) _ _ _); refine Halt.out ?_))
theorem hm_run {x : Option Value} (m : Str → Option Value) (e : m (Str.ofString "steps") = x) : ∀ y, m y = if y = Str.ofString "steps" then x else if y = Str.ofString "op" then m (Str.ofString "op") else m y := by
  intro y
  by_cases h1 : y = Str.ofString "steps"
  · rw [if_pos h1, h1, e]
  · rw [if_neg h1]
    by_cases h2 : y = Str.ofString "op"
    · rw [if_pos h2, h2]
    · rw [if_neg h2]
theorem run_spec {w : World} {mean : ExcName → Option Value} {mg mb : Str → Option Value} {ci di ta f1 f2 dl : Addr} {vs : List Value} {os : List Op} {ns : List Int} {t40 : Tok} {rest : List (Addr × Obj)} {n0 : Nat}
    (hL : RunLed rest ci di ta f1 f2 vs) (hD : DatAll rest vs (os.map Op.dat)) (hlen : os.length ≤ 60) (hdo : DoOk w mean mg mb f1 dl rest) (hte : TestOk w mean mg mb f2 dl ns rest) (hdl : ∀ p ∈ rest, p.1 ≠ dl) (hro : RunOps os) :
    CallsE w mean mg mb 60 800 ((dl, listOf #[] n0) :: rest) 385 [.ref ci, .ref di, .int 40 t40]
      (fun r news' => ∃ t zs n ds, r = .str (Str.ofString "end") t ∧ runR os ns 40 0 [] = (true, ds) ∧ IntsAre zs ds ∧ news' = (dl, listOf zs.toArray n) :: rest)
      (fun news' => ∃ zs n ds, runR os ns 40 0 [] = (false, ds) ∧ IntsAre zs ds ∧ news' = (dl, listOf zs.toArray n) :: rest) := by
  have hvl : vs.length = os.length := by rw [hD.length, List.length_map]
  have hsz : vs.length ≤ 1000 := by walk_at "om"
  obtain ⟨cd, ck1, ck2, ct1, ct2, tb, tn, hci, hcd, hta⟩ := hL.code
  obtain ⟨dd, dk1, dk2, dk3, dk4, dt1, dt2, dt3, dt4, v3, v4, hdi, hdd⟩ := hL.deeds
  intro dp un gd cn cs a ccd cl outer A₀ base h₀ L m s Q E B F X N T hk hd hu hret hexc
  walk_at "M.enter"
  rename_i g1 L1 h1 FG1 F1 N1 B1 X1 T1
  k_steps
  refine ⟨?_⟩
  try refine settle (g0 := s.gens) (d0 := s.drawn) (o0 := s.os) rfl rfl rfl fun tk8 => ?_
  (with_reducible rename News _ _ _ _ => NZ)
  (with_reducible rename Fr _ _ _ _ => FZ)
  refine run_loop_start (a := ⟨_, _, _, _, _, _, _, _, _, _, _, _, _⟩) FZ NZ (by assumption) (by assumption) ?m6 ?m7 ?kk
  case m6 =>
    intro p hp
    simp only [List.mem_cons] at hp
    rcases hp with rfl | rfl | rfl | rfl | rfl | rfl | rfl | hp
    all_goals first
      | exact ⟨allLt_ne (by walk_at "M.lt") p hp, hdl p hp⟩
      | (constructor <;> walk_at "om")
  case m7 => walk_at "om"
  clear NZ FZ
  intro mi md tab ot c0 tl tks mq aT hF hN hlo hdict m1 m2 m3 m4 hmq m6 m7
  have m5 : mq (Str.ofString "code") = some (.ref ci) ∧ mq (Str.ofString "deeds") = some (.ref di) ∧ mq (Str.ofString "limit") = some (.int 40 t40) := by subst hmq; exact ⟨rfl, rfl, rfl⟩
  have m5o : mq (Str.ofString "op") = none := by subst hmq; rfl
  clear hmq
  refine while_st (σ := RS) (fun m c y => if y = Str.ofString "steps" then some (.int (c.k : Int) c.kt) else if y = Str.ofString "op" then c.opv else m y) (fun c => (md, mdict w ci di c.ms) :: (dl, listOf c.zs.toArray c.n) :: tl) (fun c => 41 - c.k) (RSt os ns) ⟨c0, [], n0, 0, tks, mq (Str.ofString "op")⟩ hF hN (fun _ h => h) (hm_run _ rfl) ?h0 ?turn
  case h0 => exact ⟨Nat.zero_le _, [], .nil, Nat.le_refl _, .inl ⟨m4.2, 0, m4.1, hro.1, rfl⟩⟩
  case turn =>
    intro c h tk hs F' N' W8 hW8
    obtain ⟨hk40, ds, hzs, hdl2, hw⟩ := hs
    replace hci := m3 _ hci; replace hcd := m3 _ hcd; replace hta := m3 _ hta; replace hdi := m3 _ hdi; replace hdd := m3 _ hdd
    obtain ⟨m5a, m5b, m5c⟩ := m5
    clear hF hN
    have hmd : ∀ p ∈ tl, p.1 ≠ md := fun p hp => (m6 p hp).1
    have hdt : ∀ p ∈ tl, p.1 ≠ dl := fun p hp => (m6 p hp).2
    rcases hw with ⟨hw, pl, hpl, hplt, hrun⟩ | ⟨hw, hrun⟩
    · obtain ⟨ms, zs, n, k, kt, opv⟩ := c
      obtain ⟨t1, t2, t3, t4, t5, t6, t7, p1, plt, st, fr, key, word, wt⟩ := ms
      dsimp only at hw hpl hrun hk40 hzs hdl2 N'
      subst hw hpl
      by_cases hk2 : k = 40
      · subst hk2
        -- <<k40
        k_steps
        refine ⟨?_⟩
        try refine settle (g0 := s.gens) (d0 := s.drawn) (o0 := s.os) rfl rfl rfl fun tk8 => ?_
        refine raise_stmt rfl ?_
        k_steps
        refine ⟨?_⟩
        try refine settle (g0 := s.gens) (d0 := s.drawn) (o0 := s.os) rfl rfl rfl fun tk8 => ?_
        (with_reducible rename News _ _ _ _ => N7)
        (with_reducible rename Fr _ _ _ _ => F7)
        k_dflt (refine Calls.use exc_make (by assumption) F7 (by assumption) N7 (fun _ h => h) T1 rfl (by ktr_room) (by ktr_units) ?_)
        rintro r7 nw7 h7 tk7 F8 N8 ⟨e, t, d, rfl, rfl, he⟩
        refine ⟨⟨e, t, _, rfl, X1.keeps F8.keep, N8.get List.mem_cons_self, ?_⟩⟩
        (with_reducible show wpAny _ _ (leaving _ _) _ _ _)
        refine leave_mine (e := e) (t := t) (dd := some d) (news := (dl, listOf zs.toArray n) :: rest) B1 F8 (news_sub N8 ?sub) ?hne rfl rfl ?hQ
        case sub =>
          intro p hp
          rcases List.mem_cons.mp hp with rfl | hp
          · exact List.mem_cons_self
          · rcases List.mem_cons.mp hp with rfl | hp
            · exact List.mem_cons_of_mem _ (List.mem_cons_of_mem _ (List.mem_cons_of_mem _ List.mem_cons_self))
            · exact List.mem_cons_of_mem _ (List.mem_cons_of_mem _ (List.mem_cons_of_mem _ (List.mem_cons_of_mem _ (m3 _ hp))))
        case hne =>
          intro p hp
          rcases List.mem_cons.mp hp with rfl | hp
          · exact (he _ (List.mem_cons_of_mem _ List.mem_cons_self)).1
          · exact (he _ (List.mem_cons_of_mem _ (List.mem_cons_of_mem _ (m3 _ hp)))).1
        case hQ =>
          intro h' hR hU
          exact hexc _ e ((dl, listOf zs.toArray n) :: rest) h' _ FG1 hR hU ⟨zs, n, ds, hrun, hzs, rfl⟩
        -- k40>>
      · have hkl : k < 40 := by walk_at "om"
        have hzl0 := hzs.length
        have hzl : zs.length ≤ 40 := by walk_at "om"
        obtain ⟨v, hv⟩ : ∃ v, vs[pl]? = some v := ⟨_, List.getElem?_eq_getElem (by walk_at "om")⟩
        obtain ⟨o, ho, hvo⟩ := ds_at hD hv
        have hro2 := hro.2 pl o ho
        cases o with
        | jump l =>
          -- <<jump
          cases hvo with
          | tuple hm hall =>
          cases hall with
          | cons e0 hall =>
          cases hall with
          | cons e1 hall =>
          cases hall
          cases e0
          cases e1
          replace hm := m3 _ hm
          k_steps
          refine ⟨?_⟩
          k_dflt (refine' item_dictV (by k_asm) (by k_mem) hdict rfl ?_)
          k_steps
          refine hW8 _ _ ?_
          refine WEnd.fin ⟨⟨t1, t2, t3, t4, t5, t6, t7, l, ?pt1J, st, fr, key, Str.ofString "", wt⟩, zs, n, k + 1, ?kt1J, ?op1J⟩ (by assumption) (by assumption) (fun _ h => h) ?gmJ ?gmuJ ?gstJ
          case gmJ =>
            intro y
            by_cases h1 : y = Str.ofString "steps"
            · subst h1; exact rfl
            · by_cases h2 : y = Str.ofString "op"
              · subst h2; exact rfl
              · simp only [if_neg h1, if_neg h2]
          case gmuJ => simp only; walk_at "om"
          case gstJ =>
            have e40 : 40 - k = (40 - (k + 1)) + 1 := by walk_at "om"
            refine ⟨by show k + 1 ≤ 40; walk_at "om", ds, hzs, by show ds.length ≤ k + 1; walk_at "om", .inl ⟨rfl, l.toNat, by simp only; have := hro2.1; walk_at "om", by have := hro2.1; have := hro2.2; walk_at "om", ?_⟩⟩
            rw [hrun, e40, runR, ho]
          -- jump>>
        | test d l =>
          -- <<test
          cases hvo with
          | tuple hm hall =>
          cases hall with
          | cons e0 hall =>
          cases hall with
          | cons e1 hall =>
          cases hall with
          | cons e2 hall =>
          cases hall
          cases e0
          cases e2
          obtain ⟨oc7, od7, fd7, sl7, hfn⟩ := hte.fn
          replace hfn := m3 _ hfn
          replace hm := m3 _ hm
          k_steps
          refine ⟨?_⟩
          k_dflt (refine' item_dictV (by k_asm) (by k_mem) hdict rfl ?_)
          k_steps
          refine ⟨?_⟩
          try refine settle (g0 := s.gens) (d0 := s.drawn) (o0 := s.os) rfl rfl rfl fun tk8 => ?_
          (with_reducible rename News _ _ _ _ => N7)
          (with_reducible rename Fr _ _ _ _ => F7)
          k_dflt (refine Calls.use (hte.ok (_ :: tl) (fun p hp => List.mem_cons_of_mem _ (m3 p hp)) zs n _ (by walk_at "om")) (by assumption) F7 (by assumption) N7 (swap2 _ _) (by assumption) rfl (by ktr_room) (by ktr_units) ?_)
          rintro r7 nw7 h7 tk7 F8 N8 ⟨rfl, rfl⟩
          clear F7 N7
          by_cases hc : ((ns.getD (zs.length % ns.length) 0) + zs.length) % 2 = 0
          · rw [decide_eq_true hc]
            k_steps
            rw [hzl0] at hc
            refine hW8 _ _ ?_
            refine WEnd.fin ⟨⟨t1, t2, t3, t4, t5, t6, t7, ((pl + 1 : Nat) : Int), ?pt1TA, st, fr, key, Str.ofString "", wt⟩, zs, n, k + 1, ?kt1TA, ?op1TA⟩ (by assumption) (by assumption) (swap2 _ _) ?gmTA ?gmuTA ?gstTA
            case gmTA =>
              intro y
              by_cases h1 : y = Str.ofString "steps"
              · subst h1; exact rfl
              · by_cases h2 : y = Str.ofString "op"
                · subst h2; exact rfl
                · simp only [if_neg h1, if_neg h2]
            case gmuTA => simp only; walk_at "om"
            case gstTA =>
              have e40 : 40 - k = (40 - (k + 1)) + 1 := by walk_at "om"
              refine ⟨by show k + 1 ≤ 40; walk_at "om", ds, hzs, by show ds.length ≤ k + 1; walk_at "om", .inl ⟨rfl, pl + 1, rfl, hro2.2.2, ?_⟩⟩
              rw [hrun, e40, runR, ho]
              dsimp only
              rw [if_pos hc]
          · rw [decide_eq_false hc]
            k_steps
            rw [hzl0] at hc
            refine hW8 _ _ ?_
            refine WEnd.fin ⟨⟨t1, t2, t3, t4, t5, t6, t7, l, ?pt1TB, st, fr, key, Str.ofString "", wt⟩, zs, n, k + 1, ?kt1TB, ?op1TB⟩ (by assumption) (by assumption) (swap2 _ _) ?gmTB ?gmuTB ?gstTB
            case gmTB =>
              intro y
              by_cases h1 : y = Str.ofString "steps"
              · subst h1; exact rfl
              · by_cases h2 : y = Str.ofString "op"
                · subst h2; exact rfl
                · simp only [if_neg h1, if_neg h2]
            case gmuTB => simp only; walk_at "om"
            case gstTB =>
              have e40 : 40 - k = (40 - (k + 1)) + 1 := by walk_at "om"
              refine ⟨by show k + 1 ≤ 40; walk_at "om", ds, hzs, by show ds.length ≤ k + 1; walk_at "om", .inl ⟨rfl, l.toNat, by simp only; have := hro2.1; walk_at "om", by have := hro2.1; have := hro2.2.1; walk_at "om", ?_⟩⟩
              rw [hrun, e40, runR, ho]
              dsimp only
              rw [if_neg hc]
          -- test>>
        | deed d =>
          -- <<deed
          obtain ⟨⟨pp, rfl⟩, hpp⟩ := hro2
          cases hvo with
          | tuple hm hall =>
          cases hall with
          | cons e0 hall =>
          cases hall with
          | cons e1 hall =>
          cases hall
          cases e0
          obtain ⟨oc7, od7, fd7, sl7, hfn⟩ := hdo.fn
          replace hfn := m3 _ hfn
          replace hm := m3 _ hm
          k_steps
          refine ⟨?_⟩
          k_dflt (refine' item_dictV (by k_asm) (by k_mem) hdict rfl ?_)
          k_steps
          refine ⟨?_⟩
          try refine settle (g0 := s.gens) (d0 := s.drawn) (o0 := s.os) rfl rfl rfl fun tk8 => ?_
          (with_reducible rename News _ _ _ _ => N7)
          (with_reducible rename Fr _ _ _ _ => F7)
          (with_reducible rename DoOk _ _ _ _ _ _ _ => hdo)
          k_dflt (refine Calls.use (hdo.ok (_ :: tl) (fun p hp => List.mem_cons_of_mem _ (m3 p hp)) ?hoff zs n _ pp (e1.mono fun p hp => List.mem_cons_of_mem _ (m3 p hp)) (by walk_at "om")) (by assumption) F7 (by assumption) N7 (swap2 _ _) (by assumption) rfl (by ktr_room) (by ktr_units) ?_)
          case hoff =>
            intro p hp
            rcases List.mem_cons.mp hp with rfl | hp
            · exact m7
            · exact hdt p hp
          rintro r7 nw7 h7 tk7 F8 N8 ⟨t8, tp8, rfl, rfl⟩
          clear F7 N7
          k_steps
          refine hW8 _ _ ?_
          refine WEnd.fin ⟨⟨t1, t2, t3, t4, t5, t6, t7, ((pl + 1 : Nat) : Int), ?pt1D, st, fr, ?key1D, Str.ofString "", wt⟩, zs ++ [Value.int pp tp8], n + 1, k + 1, ?kt1D, ?op1D⟩ (by assumption) (by assumption) (swap2 _ _) ?gmD ?gmuD ?gstD
          case gmD =>
            intro y
            by_cases h1 : y = Str.ofString "steps"
            · subst h1; exact rfl
            · by_cases h2 : y = Str.ofString "op"
              · subst h2; exact rfl
              · simp only [if_neg h1, if_neg h2]
          case gmuD => simp only; walk_at "om"
          case gstD =>
            have e40 : 40 - k = (40 - (k + 1)) + 1 := by walk_at "om"
            refine ⟨by show k + 1 ≤ 40; walk_at "om", ds ++ [pp], ints_snoc hzs, by show (ds ++ [pp]).length ≤ k + 1; rw [List.length_append]; simp; walk_at "om", .inl ⟨rfl, pl + 1, rfl, hpp, ?_⟩⟩
            rw [hrun, e40, runR, ho]
            rfl
          -- deed>>
        | stop d =>
          -- <<stop
          obtain rfl := hro2
          cases hvo with
          | tuple hm hall =>
          cases hall with
          | cons e0 hall =>
          cases hall with
          | cons e1 hall =>
          cases hall
          cases e0
          cases e1
          replace hm := m3 _ hm
          k_steps
          refine ⟨?_⟩
          k_dflt (refine' item_dictV (by k_asm) (by k_mem) hdict rfl ?_)
          k_steps
          refine hW8 _ _ ?_
          refine WEnd.fin ⟨⟨t1, t2, t3, t4, t5, t6, t7, ((pl + 1 : Nat) : Int), ?pt1S, st, fr, key, Str.ofString "end", ?wt1S⟩, zs, n, k + 1, ?kt1S, ?op1S⟩ (by assumption) (by assumption) (fun _ h => h) ?gmS ?gmuS ?gstS
          case gmS =>
            intro y
            by_cases h1 : y = Str.ofString "steps"
            · subst h1; exact rfl
            · by_cases h2 : y = Str.ofString "op"
              · subst h2; exact rfl
              · simp only [if_neg h1, if_neg h2]
          case gmuS => simp only; walk_at "om"
          case gstS =>
            have e40 : 40 - k = (40 - (k + 1)) + 1 := by walk_at "om"
            refine ⟨by show k + 1 ≤ 40; walk_at "om", ds, hzs, by show ds.length ≤ k + 1; walk_at "om", .inr ⟨rfl, ?_⟩⟩
            rw [hrun, e40, runR, ho]
          -- stop>>
        | _ => exact hro2.elim
    ·
      -- <<endw
      obtain ⟨ms, zs, n, k, kt, opv⟩ := c
      obtain ⟨t1, t2, t3, t4, t5, t6, t7, p1, plt, st, fr, key, word, wt⟩ := ms
      dsimp only at hw hrun hk40 hzs hdl2 N'
      subst hw
      k_steps
      (with_reducible rename News _ _ _ _ => N9)
      exact hret _ _ _ _ (by assumption) (news_sub N9 (fun p hp => (List.mem_cons.mp hp).elim (fun e => e ▸ List.mem_cons_of_mem _ List.mem_cons_self) (fun h => List.mem_cons_of_mem _ (List.mem_cons_of_mem _ (m3 p h))))) ⟨_, _, _, _, rfl, hrun, hzs, rfl⟩
      -- endw>>
end S_R2
end G_R1_R2
end G_E5_R2
section S_R3a
def CallsT (w : World) (mean : ExcName → Option Value) (mg mb : Str → Option Value) (dk uk : Nat) (news : List (Addr × Obj)) (f : Addr) (vs : List Value) (Post : Value → List (Addr × Obj) → Prop) : Prop :=
  ∀ (dp un : Nat) (gd : Option (List Code)) (cn : Str) (cs : Scope) (a : Addr) (ccd : Value) (cl : List (Str × Addr)) (outer : List Env) (A₀ : Around) (base h₀ : Heap) (L : Addr) (m : Str → Option Value) (s : Shared) (Q E : Value → Shared → Prop),
    Below A₀ base outer h₀ → Fr h₀ L s.heap m → (hd.heap_39 w.params).In h₀ → News h₀ L s.heap news → Top topProg LL mean mg mb h₀ → (hd.heap_39 w.params).In base → Top topProg LL mean mg mb base → KtsDicts (outer.filterMap (·.frame)) h₀ → cs.kind = .function → dp + dk < recursionLimit → un + uk < cLine →
    (∀ r news' h' tk' h₀', KtsTurn (outer.filterMap (·.frame)) h₀ h₀' → Fr h₀' L h' m → News h₀' L h' news' → Below A₀ base outer h₀' → (hd.heap_39 w.params).In h₀' → Top topProg LL mean mg mb h₀' → KtsDicts (outer.filterMap (·.frame)) h₀' → Post r news' → Q r { s with heap := h', toks := tk' }) →
    wpAny (model PySem.Challenge.rw_pb0246_01.row.prog w) (ktrTop dp un gd cn cs L a ccd cl outer) (call (.ref f) vs) Q E s
noncomputable def CodeRd (q : Str) (c : Addr) (news : List (Addr × Obj)) : Prop := ∃ oc vs t, (c, oc) ∈ news ∧ oc.data = .fields vs ∧ vs[1]? = some (.str q t)
theorem CodeRd.mono {q : Str} {c : Addr} {news news' : List (Addr × Obj)} (h : CodeRd q c news) (hs : ∀ p ∈ news, p ∈ news') : CodeRd q c news' := by
  obtain ⟨a, b, t, h1, h2⟩ := h; exact ⟨a, b, t, hs _ h1, h2⟩
noncomputable abbrev runQ : Str := Str.ofString "_law_run" ++ ".<locals>."
noncomputable def Tab420 (ps : Array Value) (news : List (Addr × Obj)) : Prop :=
  ps = #[] ∨ ∃ c1 c2 c3 c4, ps = #[rawInt 235, rawInt 4, .ref c1, rawInt 238, rawInt 26, .ref c2, rawInt 238, rawInt 93, .ref c3, rawInt 238, rawInt 121, .ref c4] ∧
    CodeRd (runQ ++ "do_one") c1 news ∧ CodeRd (runQ ++ "<lambda>") c2 news ∧ CodeRd (runQ ++ "<lambda>") c3 news ∧ CodeRd (runQ ++ "<lambda>") c4 news
theorem Tab420.mono {ps : Array Value} {news news' : List (Addr × Obj)} (h : Tab420 ps news) (hs : ∀ p ∈ news, p ∈ news') : Tab420 ps news' := by
  rcases h with h | ⟨c1, c2, c3, c4, e, h1, h2, h3, h4⟩
  · exact .inl h
  · exact .inr ⟨c1, c2, c3, c4, e, h1.mono hs, h2.mono hs, h3.mono hs, h4.mono hs⟩
noncomputable def RunPost (os : List Op) (ns : List Int) (rest : List (Addr × Obj)) (r : Value) (news' : List (Addr × Obj)) : Prop :=
  ∃ tp dl x tx zs ds n b add ps', r = .ref tp ∧ news' = add ++ (420, tabObj ps') :: rest ∧ Fresh add ((420, tabObj #[]) :: rest) ∧ Tab420 ps' (add ++ rest) ∧ (tp, tupO #[.str x tx, .ref dl]) ∈ add ∧ (dl, listOf zs.toArray n) ∈ add ∧
    IntsAre zs ds ∧ runR os ns 40 0 [] = (b, ds) ∧ x = (if b = true then Str.ofString "end" else Str.ofString "steps")
theorem CallsE.use_s {w : World} {mean : ExcName → Option Value} {mg mb : Str → Option Value} {dk uk : Nat} {news : List (Addr × Obj)} {f : Addr} {vs : List Value} {Post : Value → List (Addr × Obj) → Prop} {PostE : List (Addr × Obj) → Prop}
    (C : CallsE w mean mg mb dk uk news f vs Post PostE)
    {dp un : Nat} {gd : Option (List Code)} {cn : Str} {cs : Scope} {a : Addr} {ccd : Value} {cl : List (Str × Addr)} {outer : List Env} {A₀ : Around} {base h₀ : Heap} {L : Addr} {m : Str → Option Value} {s : Shared} {Q E : Value → Shared → Prop} {news₀ : List (Addr × Obj)}
    (B : Below A₀ base outer h₀) (F : Fr h₀ L s.heap m) (X : (hd.heap_39 w.params).In h₀) (N : News h₀ L s.heap news₀) (hs : ∀ p ∈ news, p ∈ news₀) (T : Top topProg LL mean mg mb h₀) (hk : cs.kind = .function)
    (hd : dp + dk < recursionLimit) (hu : un + uk < cLine)
    (hret : ∀ r news' h' tk', Fr h₀ L h' m → News h₀ L h' news' → Post r news' → Q r { s with heap := h', toks := tk' })
    (hexc : ∀ g e news' h' tk', Fr h₀ L g m → RaisedM g (envX cn cs L a ccd cl :: outer) e news' h' → g.UpToSlots h' → PostE news' → E (.ref e) { s with heap := h', toks := tk' }) :
    wpAny (model PySem.Challenge.rw_pb0246_01.row.prog w) (ktrTop dp un gd cn cs L a ccd cl outer) (call (.ref f) vs) Q E s :=
  C dp un gd cn cs a ccd cl outer A₀ base h₀ L m s Q E B F X (news_sub N hs) T hk hd hu hret hexc
theorem CallsE.use {w : World} {mean : ExcName → Option Value} {mg mb : Str → Option Value} {dk uk : Nat} {news : List (Addr × Obj)} {f : Addr} {vs : List Value} {Post : Value → List (Addr × Obj) → Prop} {PostE : List (Addr × Obj) → Prop} (C : CallsE w mean mg mb dk uk news f vs Post PostE) {dp un : Nat} {gd : Option (List Code)} {cn : Str} {cs : Scope} {a : Addr} {ccd : Value} {cl : List (Str × Addr)} {outer : List Env} {A₀ : Around} {base h₀ : Heap} {L : Addr} {m : Str → Option Value} {hp9 : Heap} {gn9 : Array GenState} {dr9 : Drawn} {tk9 : Nat} {os9 : OsState} {Q E : Value → Shared → Prop} {news₀ : List (Addr × Obj)} (B : Below A₀ base outer h₀) (F : Fr h₀ L hp9 m) (X : (hd.heap_39 w.params).In h₀) (N : News h₀ L hp9 news₀) (hs : ∀ p ∈ news, p ∈ news₀) (T : Top topProg LL mean mg mb h₀) (hk : cs.kind = .function) (hd : dp + dk < recursionLimit) (hu : un + uk < cLine) (hret : ∀ r news' h' tk', Fr h₀ L h' m → News h₀ L h' news' → Post r news' → Q r ⟨h', gn9, dr9, tk', os9⟩) (hexc : ∀ g e news' h' tk', Fr h₀ L g m → RaisedM g (envX cn cs L a ccd cl :: outer) e news' h' → g.UpToSlots h' → PostE news' → E (.ref e) ⟨h', gn9, dr9, tk', os9⟩) :
    wpAny (model PySem.Challenge.rw_pb0246_01.row.prog w) (ktrTop dp un gd cn cs L a ccd cl outer) (call (.ref f) vs) Q E ⟨hp9, gn9, dr9, tk9, os9⟩ :=
  CallsE.use_s (s := ⟨hp9, gn9, dr9, tk9, os9⟩) C B F X N hs T hk hd hu hret hexc
theorem run_pack {P : Prop} {w : World} {mean : ExcName → Option Value} {mg mb : Str → Option Value} {g h : Heap} {L l dc cc f1 f2 c1 c2 cel : Addr} {ob oa : Obj} {q1 q2 : Str} {doc1 pm1 ctv1 pm2 ctv2 : Value} {big add rest : List (Addr × Obj)} {ps ps' : Array Value} {cvs : List Value} {cn0 : Nat} {ns : List Int}
    (N : News g L h big) (hsub : ∀ p ∈ (l, listOf #[] 0) :: (add ++ (420, tabObj ps') :: rest), p ∈ big) (hrest : ∀ p ∈ (420, tabObj ps) :: rest, p.1 < L) (hLl : @LT.lt Nat _ L l) (hadd : ∀ p ∈ add, @LT.lt Nat _ L p.1 ∧ @Ne Nat p.1 l)
    (m1 : (f1, fnMade (Str.ofString "do_one") q1 (doArgs ⟨235, 15, 235, 24⟩) doBody doScope [(Str.ofString "done", dc)] doc1 pm1 c1 ctv1) ∈ add)
    (m2 : (f2, kla_obj (Str.ofString "<lambda>") q2 teArgs teBody teScope [(Str.ofString "done", dc), (Str.ofString "cells", cc)] pm2 c2 ctv2) ∈ add)
    (m3 : (dc, ob) ∈ add) (d3 : ob.data = .cell (some (.ref l))) (m4 : (cc, oa) ∈ add) (d4 : oa.data = .cell (some (.ref cel))) (hcel : (cel, listOf cvs.toArray cn0) ∈ rest) (hc : IntsAre cvs ns ∧ 0 < ns.length ∧ ns.length ≤ 60)
    (r1 : CodeRd q1 c1 (add ++ rest)) (r2 : CodeRd q2 c2 (add ++ rest)) (hT : Tab420 ps' (add ++ rest))
    (k : ∀ tl, tl = add ++ (420, tabObj ps') :: rest → News g L h ((l, listOf #[] 0) :: tl) → (∀ p ∈ tl, @Ne Nat p.1 l) → DoOk w mean mg mb f1 l tl → TestOk w mean mg mb f2 l ns tl → (∀ p ∈ add, p ∈ tl) → (∀ p ∈ rest, p ∈ tl) → Fresh ((l, listOf #[] 0) :: add) ((420, tabObj #[]) :: rest) → Tab420 ps' (add ++ rest) → P) : P := by
  have ha : ∀ p ∈ add, p ∈ add ++ (420, tabObj ps') :: rest := fun p hp => List.mem_append.mpr (.inl hp)
  have hr : ∀ p ∈ rest, p ∈ add ++ (420, tabObj ps') :: rest := fun p hp => List.mem_append.mpr (.inr (List.mem_cons_of_mem _ hp))
  have har : ∀ p ∈ add ++ rest, p ∈ add ++ (420, tabObj ps') :: rest := fun p hp => (List.mem_append.mp hp).elim (ha p) (hr p)
  have hlt : ∀ p ∈ rest, @LT.lt Nat _ p.1 L := fun p hp => hrest p (List.mem_cons_of_mem _ hp)
  have h420 : @LT.lt Nat _ 420 L := hrest (420, tabObj ps) List.mem_cons_self
  obtain ⟨oc1, v1, t1, e1, e2, e3⟩ := r1.mono har
  obtain ⟨oc2, v2, t2, e4, e5, e6⟩ := r2.mono har
  refine k _ rfl (news_sub N hsub) ?_ (do_spec (ha _ m1) (ha _ m3) d3 e1 e2 e3) (test_spec (ha _ m2) (ha _ m3) d3 (ha _ m4) d4 (hr _ hcel) hc e4 e5 e6) ha hr ?_ hT
  · intro p hp
    rcases List.mem_append.mp hp with hp | hp
    · exact (hadd p hp).2
    · rcases List.mem_cons.mp hp with rfl | hp
      · exact Nat.ne_of_lt (Nat.lt_trans h420 hLl)
      · exact Nat.ne_of_lt (Nat.lt_trans (hlt p hp) hLl)
  · intro p hp q hq
    have hq' : @LT.lt Nat _ q.1 L := by
      rcases List.mem_cons.mp hq with rfl | hq
      · exact h420
      · exact hlt q hq
    rcases List.mem_cons.mp hp with rfl | hp
    · exact Nat.ne_of_lt (Nat.lt_trans hq' hLl)
    · exact Nat.ne_of_lt (Nat.lt_trans hq' (hadd p hp).1)
theorem run_pack1 {P : Prop} {w : World} {mean : ExcName → Option Value} {mg mb : Str → Option Value} {g h : Heap} {L x d f1 f2 f3 f4 c1 c2 c3 c4 l dc cc cel : Addr} {ox od o3 o4 ob oa : Obj} {q1 q2 : Str} {doc1 pm1 ctv1 pm2 ctv2 : Value} {rest : List (Addr × Obj)} {ps ps' : Array Value} {cvs : List Value} {cn0 : Nat} {ns : List Int} {oc1 oc2 oc3 oc4 : Obj} {vc1 vc2 vc3 vc4 : Array Value} {tc1 tc2 tc3 tc4 : Tok}
    (N : News g L h ((x, ox) :: (d, od) :: (f4, o4) :: (c4, oc4) :: (f3, o3) :: (c3, oc3) :: (f2, kla_obj (Str.ofString "<lambda>") q2 teArgs teBody teScope [(Str.ofString "done", dc), (Str.ofString "cells", cc)] pm2 c2 ctv2) :: (c2, oc2) :: (f1, fnMade (Str.ofString "do_one") q1 (doArgs ⟨235, 15, 235, 24⟩) doBody doScope [(Str.ofString "done", dc)] doc1 pm1 c1 ctv1) :: (c1, oc1) :: (l, listOf #[] 0) :: (dc, ob) :: (cc, oa) :: (420, tabObj ps') :: rest)) (hrest : ∀ p ∈ (420, tabObj ps) :: rest, p.1 < L)
    (ho : @LT.lt Nat _ L cc ∧ @LT.lt Nat _ cc dc ∧ @LT.lt Nat _ dc l ∧ @LT.lt Nat _ l c1 ∧ @LT.lt Nat _ c1 f1 ∧ @LT.lt Nat _ f1 c2 ∧ @LT.lt Nat _ c2 f2 ∧ @LT.lt Nat _ f2 c3 ∧ @LT.lt Nat _ c3 f3 ∧ @LT.lt Nat _ f3 c4 ∧ @LT.lt Nat _ c4 f4 ∧ @LT.lt Nat _ f4 d ∧ @LT.lt Nat _ d x) (hq1 : q1 = runQ ++ "do_one") (hq2 : q2 = runQ ++ "<lambda>")
    (hps : ps' = #[rawInt 235, rawInt 4, .ref c1, rawInt 238, rawInt 26, .ref c2, rawInt 238, rawInt 93, .ref c3, rawInt 238, rawInt 121, .ref c4])
    (d3 : ob.data = .cell (some (.ref l))) (d4 : oa.data = .cell (some (.ref cel))) (hcel : (cel, listOf cvs.toArray cn0) ∈ rest) (hc : IntsAre cvs ns ∧ 0 < ns.length ∧ ns.length ≤ 60)
    (e1 : oc1.data = .fields vc1) (g1 : vc1[1]? = some (.str q1 tc1))
    (e2 : oc2.data = .fields vc2) (g2 : vc2[1]? = some (.str q2 tc2))
    (e3 : oc3.data = .fields vc3) (g3 : vc3[1]? = some (.str q2 tc3))
    (e4 : oc4.data = .fields vc4) (g4 : vc4[1]? = some (.str q2 tc4))
    (k : ∀ tl add, tl = add ++ (420, tabObj ps') :: rest → News g L h ((l, listOf #[] 0) :: tl) → (∀ p ∈ tl, @Ne Nat p.1 l) → DoOk w mean mg mb f1 l tl → TestOk w mean mg mb f2 l ns tl → (x, ox) ∈ tl → (d, od) ∈ tl → (dc, ob) ∈ tl → (∀ p ∈ rest, p ∈ tl) → Fresh ((l, listOf #[] 0) :: add) ((420, tabObj #[]) :: rest) → Tab420 ps' (add ++ rest) → P) : P := by
  subst hps
  refine run_pack (add := [(x, ox), (d, od), (f4, o4), (c4, oc4), (f3, o3), (c3, oc3), (f2, kla_obj (Str.ofString "<lambda>") q2 teArgs teBody teScope [(Str.ofString "done", dc), (Str.ofString "cells", cc)] pm2 c2 ctv2), (c2, oc2), (f1, fnMade (Str.ofString "do_one") q1 (doArgs ⟨235, 15, 235, 24⟩) doBody doScope [(Str.ofString "done", dc)] doc1 pm1 c1 ctv1), (c1, oc1), (dc, ob), (cc, oa)]) (mean := mean) (mg := mg) (mb := mb) (w := w) N ?sub hrest (by walk_at "om") ?had (by k_mem) (by k_mem) (by k_mem) d3 (by k_mem) d4 hcel hc ?r1 ?r2 ?hT (fun tl e N' hoff hdo hte ha hr hf hT => k tl _ e N' hoff hdo hte (ha _ (by k_mem)) (ha _ (by k_mem)) (ha _ (by k_mem)) hr hf hT)
  case sub =>
    intro p hp
    simp only [List.mem_cons, List.mem_append, List.cons_append, List.nil_append] at hp ⊢
    rcases hp with h | h | h | h | h | h | h | h | h | h | h | h | h | h | h <;> simp [h]
  case had =>
    intro p hp
    simp only [List.mem_cons, List.not_mem_nil, or_false] at hp
    rcases hp with h | h | h | h | h | h | h | h | h | h | h | h <;> subst h <;> (constructor <;> dsimp only <;> walk_at "om")
  case r1 => exact ⟨oc1, vc1, tc1, by simp, e1, g1⟩
  case r2 => exact ⟨oc2, vc2, tc2, by simp, e2, g2⟩
  case hT => subst hq1 hq2; exact .inr ⟨c1, c2, c3, c4, rfl, ⟨oc1, vc1, tc1, by simp, e1, g1⟩, ⟨oc2, vc2, tc2, by simp, e2, g2⟩, ⟨oc3, vc3, tc3, by simp, e3, g3⟩, ⟨oc4, vc4, tc4, by simp, e4, g4⟩⟩
theorem run_pack2 {P : Prop} {w : World} {mean : ExcName → Option Value} {mg mb : Str → Option Value} {g h : Heap} {L x d f1 f2 f3 f4 c1 c2 c3 c4 l dc cc cel : Addr} {ox od o3 o4 ob oa : Obj} {q1 q2 : Str} {doc1 pm1 ctv1 pm2 ctv2 : Value} {rest : List (Addr × Obj)} {ps ps' : Array Value} {cvs : List Value} {cn0 : Nat} {ns : List Int} 
    (N : News g L h ((x, ox) :: (d, od) :: (f4, o4) :: (f3, o3) :: (f2, kla_obj (Str.ofString "<lambda>") q2 teArgs teBody teScope [(Str.ofString "done", dc), (Str.ofString "cells", cc)] pm2 c2 ctv2) :: (f1, fnMade (Str.ofString "do_one") q1 (doArgs ⟨235, 15, 235, 24⟩) doBody doScope [(Str.ofString "done", dc)] doc1 pm1 c1 ctv1) :: (l, listOf #[] 0) :: (dc, ob) :: (cc, oa) :: (420, tabObj ps') :: rest)) (hrest : ∀ p ∈ (420, tabObj ps) :: rest, p.1 < L)
    (ho : @LT.lt Nat _ L cc ∧ @LT.lt Nat _ cc dc ∧ @LT.lt Nat _ dc l ∧ @LT.lt Nat _ l f1 ∧ @LT.lt Nat _ f1 f2 ∧ @LT.lt Nat _ f2 f3 ∧ @LT.lt Nat _ f3 f4 ∧ @LT.lt Nat _ f4 d ∧ @LT.lt Nat _ d x) (hq1 : q1 = runQ ++ "do_one") (hq2 : q2 = runQ ++ "<lambda>")
    (hps : ps' = #[rawInt 235, rawInt 4, .ref c1, rawInt 238, rawInt 26, .ref c2, rawInt 238, rawInt 93, .ref c3, rawInt 238, rawInt 121, .ref c4])
    (d3 : ob.data = .cell (some (.ref l))) (d4 : oa.data = .cell (some (.ref cel))) (hcel : (cel, listOf cvs.toArray cn0) ∈ rest) (hc : IntsAre cvs ns ∧ 0 < ns.length ∧ ns.length ≤ 60)
    (r1 : CodeRd q1 c1 rest) (r2 : CodeRd q2 c2 rest) (r3 : CodeRd q2 c3 rest) (r4 : CodeRd q2 c4 rest)
    (k : ∀ tl add, tl = add ++ (420, tabObj ps') :: rest → News g L h ((l, listOf #[] 0) :: tl) → (∀ p ∈ tl, @Ne Nat p.1 l) → DoOk w mean mg mb f1 l tl → TestOk w mean mg mb f2 l ns tl → (x, ox) ∈ tl → (d, od) ∈ tl → (dc, ob) ∈ tl → (∀ p ∈ rest, p ∈ tl) → Fresh ((l, listOf #[] 0) :: add) ((420, tabObj #[]) :: rest) → Tab420 ps' (add ++ rest) → P) : P := by
  subst hps
  refine run_pack (add := [(x, ox), (d, od), (f4, o4), (f3, o3), (f2, kla_obj (Str.ofString "<lambda>") q2 teArgs teBody teScope [(Str.ofString "done", dc), (Str.ofString "cells", cc)] pm2 c2 ctv2), (f1, fnMade (Str.ofString "do_one") q1 (doArgs ⟨235, 15, 235, 24⟩) doBody doScope [(Str.ofString "done", dc)] doc1 pm1 c1 ctv1), (dc, ob), (cc, oa)]) (mean := mean) (mg := mg) (mb := mb) (w := w) N ?sub hrest (by walk_at "om") ?had (by k_mem) (by k_mem) (by k_mem) d3 (by k_mem) d4 hcel hc ?r1 ?r2 ?hT (fun tl e N' hoff hdo hte ha hr hf hT => k tl _ e N' hoff hdo hte (ha _ (by k_mem)) (ha _ (by k_mem)) (ha _ (by k_mem)) hr hf hT)
  case sub =>
    intro p hp
    simp only [List.mem_cons, List.mem_append, List.cons_append, List.nil_append] at hp ⊢
    rcases hp with h | h | h | h | h | h | h | h | h | h | h <;> simp [h]
  case had =>
    intro p hp
    simp only [List.mem_cons, List.not_mem_nil, or_false] at hp
    rcases hp with h | h | h | h | h | h | h | h <;> subst h <;> (constructor <;> dsimp only <;> walk_at "om")
  all_goals have har : ∀ p ∈ rest, p ∈ [(x, ox), (d, od), (f4, o4), (f3, o3), (f2, kla_obj (Str.ofString "<lambda>") q2 teArgs teBody teScope [(Str.ofString "done", dc), (Str.ofString "cells", cc)] pm2 c2 ctv2), (f1, fnMade (Str.ofString "do_one") q1 (doArgs ⟨235, 15, 235, 24⟩) doBody doScope [(Str.ofString "done", dc)] doc1 pm1 c1 ctv1), (dc, ob), (cc, oa)] ++ rest := fun p hp => List.mem_append.mpr (.inr hp)
  case r1 => exact r1.mono har
  case r2 => exact r2.mono har
  case hT => subst hq1 hq2; exact .inr ⟨c1, c2, c3, c4, rfl, r1.mono har, r2.mono har, r3.mono har, r4.mono har⟩
theorem RaisedM.mono {h₀ h : Heap} {l : List Env} {e : Addr} {news news' : List (Addr × Obj)} (R : RaisedM h₀ l e news h) (hs : ∀ p ∈ news', p ∈ news) : RaisedM h₀ l e news' h := by
  obtain ⟨B, t, a, b, c⟩ := R
  exact ⟨B, t, a, fun q hq => b q (hs q hq), c⟩
theorem DoOk.mono {w : World} {mean : ExcName → Option Value} {mg mb : Str → Option Value} {f dl : Addr} {led led' : List (Addr × Obj)} (h : DoOk w mean mg mb f dl led) (hs : ∀ p ∈ led, p ∈ led') : DoOk w mean mg mb f dl led' :=
  ⟨by obtain ⟨a, b, c, d, e⟩ := h.fn; exact ⟨a, b, c, d, hs _ e⟩, fun news hn => h.ok news fun p hp => hn p (hs p hp)⟩
theorem TestOk.mono {w : World} {mean : ExcName → Option Value} {mg mb : Str → Option Value} {f dl : Addr} {ns : List Int} {led led' : List (Addr × Obj)} (h : TestOk w mean mg mb f dl ns led) (hs : ∀ p ∈ led, p ∈ led') : TestOk w mean mg mb f dl ns led' :=
  ⟨by obtain ⟨a, b, c, d, e⟩ := h.fn; exact ⟨a, b, c, d, hs _ e⟩, fun news hn => h.ok news fun p hp => hn p (hs p hp)⟩
theorem run_call_s {w : World} {mean : ExcName → Option Value} {mg mb : Str → Option Value} {dp un : Nat} {gd : Option (List Code)} {cn : Str} {cs : Scope} {a : Addr} {ccd : Value} {cl : List (Str × Addr)} {outer : List Env} {A₀ : Around} {base g : Heap} {L : Addr} {m : Str → Option Value} {s : Shared} {Q E : Value → Shared → Prop}
    {ci cd ta l di dd f1 f2 : Addr} {x1 : Addr × Obj} {k1 k2 q1 q2 q3 q4 : Int} {t1 t2 u1 u2 u3 u4 t40 : Tok} {tb v3 v4 : Value} {tn : Nat} {vs : List Value} {os : List Op} {ns : List Int} {tl : List (Addr × Obj)}
    (B : Below A₀ base outer g) (F : Fr g L s.heap m) (X : (hd.heap_39 w.params).In g) (N : News g L s.heap ((ci, instObj 38 cd) :: (cd, dictOf [⟨k1, .str (Str.ofString "ops") t1, .ref ta⟩, ⟨k2, .str (Str.ofString "begins") t2, tb⟩] 2) :: x1 :: (ta, ({ cls := .type "tuple", data := .seq vs.toArray tn } : Obj)) :: (l, listOf #[] 0) :: tl))
    (T : Top topProg LL mean mg mb g) (hk : cs.kind = .function) (hdp : dp + 60 < recursionLimit) (hun : un + 800 < cLine)
    (mx : (di, instObj 402 dd) ∈ tl) (md : (dd, dictOf [⟨q1, .str (Str.ofString "do") u1, .ref f1⟩, ⟨q2, .str (Str.ofString "test") u2, .ref f2⟩, ⟨q3, .str (Str.ofString "number") u3, v3⟩, ⟨q4, .str (Str.ofString "put") u4, v4⟩] 4) ∈ tl)
    (hdo : DoOk w mean mg mb f1 l tl) (hte : TestOk w mean mg mb f2 l ns tl) (hoff : ∀ p ∈ tl, @Ne Nat p.1 l) (hD : DatAll tl vs (os.map Op.dat)) (hlen : os.length ≤ 60) (hro : RunOps os)
    (ho : @Ne Nat ci l ∧ @Ne Nat cd l ∧ @Ne Nat x1.1 l ∧ @Ne Nat ta l)
    (hret : ∀ zs n ds t h' tk', Fr g L h' m → News g L h' ((l, listOf zs.toArray n) :: tl) → IntsAre zs ds → runR os ns 40 0 [] = (true, ds) → Q (.str (Str.ofString "end") t) { s with heap := h', toks := tk' })
    (hexc : ∀ zs n ds G e h' tk', Fr g L G m → RaisedM G (envX cn cs L a ccd cl :: outer) e ((l, listOf zs.toArray n) :: tl) h' → G.UpToSlots h' → IntsAre zs ds → runR os ns 40 0 [] = (false, ds) → E (.ref e) { s with heap := h', toks := tk' }) :
    wpAny (model PySem.Challenge.rw_pb0246_01.row.prog w) (ktrTop dp un gd cn cs L a ccd cl outer) (call (.ref 385) [.ref ci, .ref di, .int 40 t40]) Q E s := by
  have ht : ∀ p ∈ tl, p ∈ (ci, instObj 38 cd) :: (cd, dictOf [⟨k1, .str (Str.ofString "ops") t1, .ref ta⟩, ⟨k2, .str (Str.ofString "begins") t2, tb⟩] 2) :: x1 :: (ta, ({ cls := .type "tuple", data := .seq vs.toArray tn } : Obj)) :: tl := fun p hp =>
    List.mem_cons_of_mem _ (List.mem_cons_of_mem _ (List.mem_cons_of_mem _ (List.mem_cons_of_mem _ hp)))
  refine CallsE.use (run_spec (rest := (ci, instObj 38 cd) :: (cd, dictOf [⟨k1, .str (Str.ofString "ops") t1, .ref ta⟩, ⟨k2, .str (Str.ofString "begins") t2, tb⟩] 2) :: x1 :: (ta, ({ cls := .type "tuple", data := .seq vs.toArray tn } : Obj)) :: tl) (n0 := 0)
    ⟨⟨cd, k1, k2, t1, t2, tb, tn, List.mem_cons_self, List.mem_cons_of_mem _ List.mem_cons_self, List.mem_cons_of_mem _ (List.mem_cons_of_mem _ (List.mem_cons_of_mem _ List.mem_cons_self))⟩, ⟨dd, q1, q2, q3, q4, u1, u2, u3, u4, v3, v4, ht _ mx, ht _ md⟩⟩
    (hD.mono ht) hlen (hdo.mono ht) (hte.mono ht) ?hdl hro) B F X N ?hs T hk hdp hun ?ret ?exc
  case hdl =>
    intro p hp
    rcases List.mem_cons.mp hp with rfl | hp
    · exact ho.1
    · rcases List.mem_cons.mp hp with rfl | hp
      · exact ho.2.1
      · rcases List.mem_cons.mp hp with rfl | hp
        · exact ho.2.2.1
        · rcases List.mem_cons.mp hp with rfl | hp
          · exact ho.2.2.2
          · exact hoff p hp
  case hs =>
    intro p hp
    simp only [List.mem_cons] at hp ⊢
    rcases hp with h | h | h | h | h | h <;> simp [h]
  case ret =>
    rintro r nw h' tk' F' N' ⟨t, zs, n, ds, rfl, hr, hz, rfl⟩
    refine hret zs n ds t h' tk' F' (news_sub N' fun p hp => ?_) hz hr
    rcases List.mem_cons.mp hp with rfl | hp
    · exact List.mem_cons_self
    · exact List.mem_cons_of_mem _ (ht p hp)
  case exc =>
    rintro G e nw h' tk' F' R U ⟨zs, n, ds, hr, hz, rfl⟩
    refine hexc zs n ds G e h' tk' F' (R.mono fun p hp => ?_) U hz hr
    rcases List.mem_cons.mp hp with rfl | hp
    · exact List.mem_cons_self
    · exact List.mem_cons_of_mem _ (ht p hp)
theorem run_call {w : World} {mean : ExcName → Option Value} {mg mb : Str → Option Value} {dp un : Nat} {gd : Option (List Code)} {cn : Str} {cs : Scope} {a : Addr} {ccd : Value} {cl : List (Str × Addr)} {outer : List Env} {A₀ : Around} {base g : Heap} {L : Addr} {m : Str → Option Value} {hp9 : Heap} {gn9 : Array GenState} {dr9 : Drawn} {tk9 : Nat} {os9 : OsState} {Q E : Value → Shared → Prop} {ci cd ta l di dd f1 f2 : Addr} {x1 : Addr × Obj} {k1 k2 q1 q2 q3 q4 : Int} {t1 t2 u1 u2 u3 u4 t40 : Tok} {tb v3 v4 : Value} {tn : Nat} {vs : List Value} {os : List Op} {ns : List Int} {tl : List (Addr × Obj)} (B : Below A₀ base outer g) (F : Fr g L hp9 m) (X : (hd.heap_39 w.params).In g) (N : News g L hp9 ((ci, instObj 38 cd) :: (cd, dictOf [⟨k1, .str (Str.ofString "ops") t1, .ref ta⟩, ⟨k2, .str (Str.ofString "begins") t2, tb⟩] 2) :: x1 :: (ta, ({ cls := .type "tuple", data := .seq vs.toArray tn } : Obj)) :: (l, listOf #[] 0) :: tl)) (T : Top topProg LL mean mg mb g) (hk : cs.kind = .function) (hdp : dp + 60 < recursionLimit) (hun : un + 800 < cLine) (mx : (di, instObj 402 dd) ∈ tl) (md : (dd, dictOf [⟨q1, .str (Str.ofString "do") u1, .ref f1⟩, ⟨q2, .str (Str.ofString "test") u2, .ref f2⟩, ⟨q3, .str (Str.ofString "number") u3, v3⟩, ⟨q4, .str (Str.ofString "put") u4, v4⟩] 4) ∈ tl) (hdo : DoOk w mean mg mb f1 l tl) (hte : TestOk w mean mg mb f2 l ns tl) (hoff : ∀ p ∈ tl, @Ne Nat p.1 l) (hD : DatAll tl vs (os.map Op.dat)) (hlen : os.length ≤ 60) (hro : RunOps os) (ho : @Ne Nat ci l ∧ @Ne Nat cd l ∧ @Ne Nat x1.1 l ∧ @Ne Nat ta l) (hret : ∀ zs n ds t h' tk', Fr g L h' m → News g L h' ((l, listOf zs.toArray n) :: tl) → IntsAre zs ds → runR os ns 40 0 [] = (true, ds) → Q (.str (Str.ofString "end") t) ⟨h', gn9, dr9, tk', os9⟩) (hexc : ∀ zs n ds G e h' tk', Fr g L G m → RaisedM G (envX cn cs L a ccd cl :: outer) e ((l, listOf zs.toArray n) :: tl) h' → G.UpToSlots h' → IntsAre zs ds → runR os ns 40 0 [] = (false, ds) → E (.ref e) ⟨h', gn9, dr9, tk', os9⟩) :
    wpAny (model PySem.Challenge.rw_pb0246_01.row.prog w) (ktrTop dp un gd cn cs L a ccd cl outer) (call (.ref 385) [.ref ci, .ref di, .int 40 t40]) Q E ⟨hp9, gn9, dr9, tk9, os9⟩ :=
  run_call_s (s := ⟨hp9, gn9, dr9, tk9, os9⟩) B F X N T hk hdp hun mx md hdo hte hoff hD hlen hro ho hret hexc
theorem run_end {os : List Op} {ns ds : List Int} {rest add tl : List (Addr × Obj)} {D l : Addr} {x : Str} {tx : Tok} {zs : List Value} {n : Nat} {b : Bool} {ps' : Array Value} (etl : tl = add ++ (420, tabObj ps') :: rest) (hl : AllLt D tl)
    (hfr : Fresh ((l, listOf #[] 0) :: add) ((420, tabObj #[]) :: rest)) (hT : Tab420 ps' (add ++ rest)) (hz : IntsAre zs ds) (hr : runR os ns 40 0 [] = (b, ds)) (hx : x = (if b = true then Str.ofString "end" else Str.ofString "steps")) :
    RunPost os ns rest (.ref D) ((D, tupO #[.str x tx, .ref l]) :: (l, listOf zs.toArray n) :: tl) := by
  subst etl
  refine ⟨D, l, x, tx, zs, ds, n, b, (D, tupO #[.str x tx, .ref l]) :: (l, listOf zs.toArray n) :: add, ps', rfl, rfl, ?_, hT.mono ?_, List.mem_cons_self, List.mem_cons_of_mem _ List.mem_cons_self, hz, hr, hx⟩
  · intro p hp q hq
    rcases List.mem_cons.mp hp with rfl | hp
    · rcases List.mem_cons.mp hq with rfl | hq
      · exact Nat.ne_of_lt (allLt_mem hl (420, tabObj ps') (List.mem_append.mpr (.inr List.mem_cons_self)))
      · exact Nat.ne_of_lt (allLt_mem hl q (List.mem_append.mpr (.inr (List.mem_cons_of_mem _ hq))))
    · rcases List.mem_cons.mp hp with rfl | hp
      · exact hfr (l, listOf #[] 0) List.mem_cons_self q hq
      · exact hfr p (List.mem_cons_of_mem _ hp) q hq
  · exact fun p hp => List.mem_cons_of_mem _ (List.mem_cons_of_mem _ hp)
end S_R3a
section S_R3
local macro_rules | `(tactic| walk_at "call ref") => `(tactic| ((with_reducible show wpAny _ _ (call (Value.ref 385) _) _ _ _); refine Halt.out ?_))
local macro_rules | `(tactic| walk_at "call type:tuple") => `(tactic| (k_here; (with_reducible show wpAny _ _ (call (Value.type _) [Value.ref _]) _ _ _); k_dflt (refine' kde_tupleOf ?k1 ?k2 ?k3 ?k4 ?k5 ?_; (case k1 => k_asm); (case k2 => k_asm); (case k3 => exact News.isList (by k_asm) (by k_mem)); (case k4 => (rw [List.size_toArray]; omega)); (case k5 => exact rfl)); intro D' h' F' N' l1; (try k_lt l1)))
theorem law_run_spec {w : World} {mean : ExcName → Option Value} {mg mb : Str → Option Value} {la cel : Addr} {vs cvs : List Value} {n cn0 : Nat} {os : List Op} {ns : List Int} {ps : Array Value} {rest : List (Addr × Obj)}
    (h1 : (la, listOf vs.toArray n) ∈ rest) (hD : DatAll rest vs (os.map Op.dat)) (hlen : os.length ≤ 60) (h2 : (cel, listOf cvs.toArray cn0) ∈ rest) (hc : IntsAre cvs ns ∧ 0 < ns.length ∧ ns.length ≤ 60) (h420 : ∀ p ∈ rest, p.1 ≠ 420) (hT : Tab420 ps rest) (hro : RunOps os) :
    CallsT w mean mg mb 70 1000 ((420, tabObj ps) :: rest) 425 [.ref la, .ref cel] (RunPost os ns rest) := by
  have hvl : vs.length = os.length := by rw [hD.length, List.length_map]
  have hsz : vs.length ≤ 1000 := by walk_at "om"
  intro dp un gd cn cs a ccd cl outer A₀ base h₀ L m s Q E B F X N T XB TB D hk hd hu hret
  rcases hT with rfl | ⟨c1, c2, c3, c4, rfl, ⟨o1, v1, t1, hc1, hc1d, hc1v⟩, ⟨o2, v2, t2, hc2, hc2d, hc2v⟩, ⟨o3, v3, t3, hc3, hc3d, hc3v⟩, ⟨o4, v4, t4, hc4, hc4d, hc4v⟩⟩
  all_goals
    refine wpAny_call ?_
    k_dflt (refine' enterT B F X N T XB TB D ?kA ?kF ?kK ?k6 ?k7 ?k8 ?k9 ?kB ?kD ?_ ?c2 ?c3 ?c4; (case kA => exact rfl); (case kF => exact rfl); (case kK => assumption); (case k6 => k_is); (case k7 => k_is); (case k8 => ktr_room); (case k9 => exact BindsTo.of_eq rfl); (case kB => exact rfl); (case kD => decide +kernel); (case c2 => exact rfl); (case c3 => exact rfl); (case c4 => exact rfl); k_whole; intro g' L' h' tk' cells' FG' F' N' Y' B' X' T' l1 D'; (try (have l2' := l1; k_lt l2')); k_cells Y'; (try simp only [List.cons_append, List.nil_append] at N'); (try dsimp only); (try k_fold))
    (with_reducible rename KtsDicts _ _ => D1)
    (with_reducible rename Frag.In _ _ => X1)
    have hC := chd424 X1
    k_steps
    (with_reducible rename News _ _ _ _ => NN)
  focus
    refine run_pack1 (mean := mean) (mg := mg) (mb := mb) (w := w) NN l1 ?ord rfl rfl ?hps (by assumption) (by assumption) h2 hc (by assumption) (by assumption) (by assumption) (by assumption) (by assumption) (by assumption) (by assumption) (by assumption) ?k
    case ord => walk_at "om"
    case hps => first | rfl | simp
  rotate_left
  focus
    refine run_pack2 (mean := mean) (mg := mg) (mb := mb) (w := w) NN l1 ?ord2 rfl rfl rfl (by assumption) (by assumption) h2 hc ⟨_, _, _, hc1, hc1d, hc1v⟩ ⟨_, _, _, hc2, hc2d, hc2v⟩ ⟨_, _, _, hc3, hc3d, hc3v⟩ ⟨_, _, _, hc4, hc4d, hc4v⟩ ?k2
    case ord2 => walk_at "om"
  rotate_left
  all_goals
    clear NN
    intro tl add etl N2 hoff hdo hte mx md mdc hrs hfr hT2
    have h1t := hrs _ h1
    refine wpAny_Try_except ?_
    k_steps
    refine ⟨?_⟩
    try refine settle (g0 := s.gens) (d0 := s.drawn) (o0 := s.os) rfl rfl rfl fun tk8 => ?_
    (with_reducible rename News _ _ _ _ => N7)
    (with_reducible rename Fr _ _ _ _ => F7)
    rw [List.toList_toArray] at N7
    k_dflt (refine run_call B' F7 X1 N7 (by assumption) rfl (by ktr_room) (by ktr_units) mx md hdo hte hoff (hD.mono hrs) hlen hro ?ho ?ret ?exc)
    case ho => walk_at "om"
    case ret =>
      intro zs n ds t h8 tk8 F8 N8 hz hr
      clear N7 F7
      k_steps
      (with_reducible rename News _ _ _ _ => N9)
      (with_reducible rename Fr _ _ _ _ => F9)
      exact ⟨_, _, _, _, KtsTurn.refl, F9, N9, fun h₀' t1 f1 n1 b1 x1 y1 d1 => hret _ _ _ _ h₀' t1 f1 n1 b1 x1 y1 d1 (run_end etl (And.right (by assumption)) hfr hT2 hz hr rfl)⟩
    case exc =>
      intro zs n ds G e h8 tk8 F8 R8 U8 hz hr
      clear N7 F7
      refine caught_mine R8 F8 B' U8 XB TB D1 rfl rfl ?_
      intro h9 g9 T9 F9 N9 B9 X9 Y9 D9
      k_steps
      (with_reducible rename News _ _ _ _ => N10)
      (with_reducible rename Fr _ _ _ _ => F10)
      exact ⟨_, _, _, _, T9, F10, N10, fun h₀' t1 f1 n1 b1 x1 y1 d1 => hret _ _ _ _ h₀' t1 f1 n1 b1 x1 y1 d1 (run_end etl (And.right (by assumption)) hfr hT2 hz hr rfl)⟩
end S_R3
section S_PL
theorem cnt_nil : cnt [] = 0 := rfl
theorem cnt_eq (os : List Op) : cnt os = ((keptOps os).length : Int) := rfl
theorem cnt_append (a b : List Op) : cnt (a ++ b) = cnt a + cnt b := by
  unfold cnt
  rw [List.filter_append, List.length_append]
  exact Int.natCast_add _ _
theorem cnt_nonneg (os : List Op) : 0 ≤ cnt os := Int.natCast_nonneg _
theorem cnt_mono (os : List Op) {i j : Nat} (h : i ≤ j) : cnt (os.take i) ≤ cnt (os.take j) := by
  obtain ⟨k, rfl⟩ := Nat.exists_eq_add_of_le h
  rw [List.take_add, cnt_append]
  have := cnt_nonneg ((os.drop i).take k)
  omega
theorem kept_append (a b : List Op) : keptOps (a ++ b) = keptOps a ++ keptOps b := List.filter_append ..
theorem kept_idx {os : List Op} {i : Nat} {o : Op} (h : os[i]? = some o) (ho : o ≠ .non) : (keptOps os)[(cnt (os.take i)).toNat]? = some o := by
  have e : keptOps os = keptOps (os.take (i + 1)) ++ keptOps (os.drop (i + 1)) := by rw [← kept_append, List.take_append_drop]
  rw [e, kept_op h ho, List.append_assoc, cnt_eq, Int.toNat_natCast, List.getElem?_append_right (Nat.le_refl _), Nat.sub_self]
  rfl
theorem kept_from : ∀ {os : List Op} {j : Nat} {o : Op}, (keptOps os)[j]? = some o → ∃ i, os[i]? = some o ∧ o ≠ .non ∧ cnt (os.take i) = (j : Int)
  | [], j, o, h => by simp [keptOps] at h
  | a :: r, j, o, h => by
    by_cases ha : a = .non
    · subst ha
      obtain ⟨i, h1, h2, h3⟩ := kept_from (os := r) (j := j) (o := o) (by simpa [keptOps] using h)
      refine ⟨i + 1, by simpa using h1, h2, ?_⟩
      rw [List.take_succ_cons, ← h3]
      rfl
    · have hk : keptOps (a :: r) = a :: keptOps r := by cases a <;> first | rfl | exact absurd rfl ha
      rw [hk] at h
      cases j with
      | zero =>
        obtain rfl : a = o := by simpa using h
        exact ⟨0, rfl, ha, rfl⟩
      | succ j =>
        obtain ⟨i, h1, h2, h3⟩ := kept_from (os := r) (j := j) (o := o) (by simpa using h)
        refine ⟨i + 1, by simpa using h1, h2, ?_⟩
        rw [List.take_succ_cons, cnt_eq]
        have hk2 : keptOps (a :: r.take i) = a :: keptOps (r.take i) := by cases a <;> first | rfl | exact absurd rfl ha
        rw [hk2, List.length_cons]
        rw [cnt_eq] at h3
        omega
theorem noNon {os : List Op} (h : ¬ hasNon os = true) : ∀ o ∈ os, o ≠ .non := by
  intro o ho e
  subst e
  exact h (List.any_eq_true.mpr ⟨_, ho, rfl⟩)
theorem kept_all {os : List Op} (h : ∀ o ∈ os, o ≠ .non) : keptOps os = os := by
  unfold keptOps
  rw [List.filter_eq_self]
  intro o ho
  have := h o ho
  cases o <;> first | rfl | exact absurd rfl this
theorem cnt_all {os : List Op} (h : ∀ o ∈ os, o ≠ .non) {i : Nat} (hi : i ≤ os.length) : cnt (os.take i) = i := by
  rw [cnt_eq, kept_all fun o ho => h o (List.mem_of_mem_take ho), List.length_take, Nat.min_eq_left hi]
theorem re_same {f : Int → Int} {o : Op} (h : ∀ l ∈ o.labels, f l = l) : o.re f = o := by
  cases o <;> simp_all [Op.re, Op.labels]
theorem re_congr {f g : Int → Int} {o : Op} (h : ∀ l ∈ o.labels, f l = g l) : o.re f = o.re g := by
  cases o <;> simp_all [Op.re, Op.labels]
theorem ahd_all {os : List Op} (h : ¬ hasNon os = true) {l : Int} (h0 : 0 ≤ l) (h1 : l ≤ os.length) : ahd (ahdAll os) l = l := by
  rw [ahd_at os h0 h1, cnt_all (noNon h) (by omega)]
  omega
theorem pressedD_eq {os : List Op} (hl : ∀ o ∈ os, ∀ l ∈ o.labels, 0 ≤ l ∧ l ≤ (os.length : Int)) : pressedD os = pressedOps os := by
  unfold pressedD
  by_cases h : hasNon os = true
  · rw [if_pos h]
  · rw [if_neg h]
    unfold pressedOps
    rw [kept_all (noNon h)]
    have : os.map (Op.re (ahd (ahdAll os))) = os.map id := by
      refine List.map_congr_left fun o ho => re_same fun l hl' => ?_
      have := hl o ho l hl'
      exact ahd_all h this.1 this.2
    rw [this, List.map_id]
theorem pressedB_eq {os : List Op} {bns : List Int} (hl : ∀ l ∈ bns, 0 ≤ l ∧ l ≤ (os.length : Int)) : pressedB os bns = bns.map (ahd (ahdAll os)) := by
  unfold pressedB
  by_cases h : hasNon os = true
  · rw [if_pos h]
  · rw [if_neg h]
    have : bns.map (ahd (ahdAll os)) = bns.map id := by
      refine List.map_congr_left fun l hl' => ?_
      have := hl l hl'
      exact ahd_all h this.1 this.2
    rw [this, List.map_id]
theorem hasNon_cnt (os : List Op) : hasNon os = decide (cnt os < (os.length : Int)) := by
  by_cases h : hasNon os = true
  · rw [h]
    refine (decide_eq_true ?_).symm
    unfold hasNon at h
    rw [cnt_eq]
    refine Int.ofNat_lt.mpr ?_
    unfold keptOps
    rw [List.length_filter_lt_length_iff_exists]
    obtain ⟨o, ho, hb⟩ := List.any_eq_true.mp h
    exact ⟨o, ho, by cases o <;> simp_all⟩
  · rw [Bool.eq_false_iff.mpr h, cnt_eq, kept_all (noNon h)]
    exact (decide_eq_false (by omega)).symm
theorem pressed_len (os : List Op) : ((pressedOps os).length : Int) = cnt os := by
  unfold pressedOps
  rw [List.length_map, cnt_eq]
/-- the run's done grows -/
theorem run_ext (os : List Op) (ns : List Int) : ∀ k pl d, d <+: (runR os ns k pl d).2
  | 0, _, d => List.prefix_refl d
  | k + 1, pl, d => by
    rw [runR]
    split
    · exact run_ext os ns k _ d
    · split
      · exact run_ext os ns k _ d
      · exact run_ext os ns k _ d
    · exact List.IsPrefix.trans (List.prefix_append _ _) (run_ext os ns k _ _)
    · exact List.prefix_refl d
    · exact List.prefix_refl d
noncomputable def tDat : Dat := .tuple [sD "sign", sD "ZERO", .tuple [sD "number", .tuple [.int 0, .int 0]]]
noncomputable def wholeOp (i : Nat) : Op → Op
  | .non => .jump ((i : Int) + 1)
  | .put _ l => .test tDat l
  | _ => .deed (.tuple [sD "display", .int i])
noncomputable def cutOp (i : Nat) : Op → Op
  | .non => .non
  | .put _ l => .test tDat l
  | _ => .deed (.tuple [sD "display", .int i])
noncomputable def wholeUp (os : List Op) (i : Nat) : List Op := (List.range i).map fun j => wholeOp j (os.getD j .non)
noncomputable def cutUp (os : List Op) (i : Nat) : List Op := (List.range i).map fun j => cutOp j (os.getD j .non)
theorem wholeUp_succ {os : List Op} {i : Nat} {o : Op} (h : os[i]? = some o) : wholeUp os (i + 1) = wholeUp os i ++ [wholeOp i o] := by
  unfold wholeUp
  rw [List.range_succ, List.map_append, List.map_singleton, List.getD_eq_getElem?_getD, h, Option.getD_some]
theorem cutUp_succ {os : List Op} {i : Nat} {o : Op} (h : os[i]? = some o) : cutUp os (i + 1) = cutUp os i ++ [cutOp i o] := by
  unfold cutUp
  rw [List.range_succ, List.map_append, List.map_singleton, List.getD_eq_getElem?_getD, h, Option.getD_some]
theorem wholeUp_len (os : List Op) (i : Nat) : (wholeUp os i).length = i := by simp [wholeUp]
theorem cutUp_len (os : List Op) (i : Nat) : (cutUp os i).length = i := by simp [cutUp]
noncomputable def wholeOps (os : List Op) : List Op := wholeUp os os.length ++ [.stop (sD "end")]
noncomputable def cutOps (os : List Op) : List Op := cutUp os os.length ++ [.stop (sD "end")]
theorem wholeOps_len (os : List Op) : (wholeOps os).length = os.length + 1 := by simp [wholeOps, wholeUp_len]
theorem cutOps_len (os : List Op) : (cutOps os).length = os.length + 1 := by simp [cutOps, cutUp_len]
theorem wholeOps_at {os : List Op} {i : Nat} {o : Op} (h : os[i]? = some o) : (wholeOps os)[i]? = some (wholeOp i o) := by
  have hi := (List.getElem?_eq_some_iff.mp h).1
  unfold wholeOps
  rw [List.getElem?_append_left (by rw [wholeUp_len]; exact hi), wholeUp, List.getElem?_map, List.getElem?_range hi, Option.map_some, List.getD_eq_getElem?_getD, h, Option.getD_some]
theorem cutOps_at {os : List Op} {i : Nat} {o : Op} (h : os[i]? = some o) : (cutOps os)[i]? = some (cutOp i o) := by
  have hi := (List.getElem?_eq_some_iff.mp h).1
  unfold cutOps
  rw [List.getElem?_append_left (by rw [cutUp_len]; exact hi), cutUp, List.getElem?_map, List.getElem?_range hi, Option.map_some, List.getD_eq_getElem?_getD, h, Option.getD_some]
theorem wholeOps_end (os : List Op) : (wholeOps os)[os.length]? = some (.stop (sD "end")) := by
  unfold wholeOps
  rw [List.getElem?_append_right (by rw [wholeUp_len]; exact Nat.le_refl _), wholeUp_len, Nat.sub_self]; rfl
theorem cutOps_end (os : List Op) : (cutOps os)[os.length]? = some (.stop (sD "end")) := by
  unfold cutOps
  rw [List.getElem?_append_right (by rw [cutUp_len]; exact Nat.le_refl _), cutUp_len, Nat.sub_self]; rfl
/-- what stands at a place of the two texts -/
theorem at_cases (os : List Op) (hl : ∀ o ∈ os, ∀ l ∈ o.labels, 0 ≤ l ∧ l ≤ (os.length : Int)) (i : Nat) :
    ((wholeOps os)[i]? = none ∧ (cutOps os)[i]? = none) ∨ (i < os.length ∧ (wholeOps os)[i]? = some (.jump ((i : Int) + 1)) ∧ (cutOps os)[i]? = some .non) ∨
    (∃ l, i < os.length ∧ 0 ≤ l ∧ l ≤ (os.length : Int) ∧ (wholeOps os)[i]? = some (.test tDat l) ∧ (cutOps os)[i]? = some (.test tDat l)) ∨
    (∃ p, i < os.length ∧ (wholeOps os)[i]? = some (.deed (.tuple [sD "display", .int p])) ∧ (cutOps os)[i]? = some (.deed (.tuple [sD "display", .int p]))) ∨
    (i = os.length ∧ (wholeOps os)[i]? = some (.stop (sD "end")) ∧ (cutOps os)[i]? = some (.stop (sD "end"))) := by
  rcases Nat.lt_trichotomy i os.length with h | h | h
  · have ho : os[i]? = some os[i] := List.getElem?_eq_getElem h
    rw [wholeOps_at ho, cutOps_at ho]
    have hm : os[i] ∈ os := List.getElem_mem h
    cases e : os[i] with
    | non => exact .inr (.inl ⟨h, rfl, rfl⟩)
    | put d l =>
      have := hl _ hm l (by rw [e]; simp [Op.labels])
      exact .inr (.inr (.inl ⟨l, h, this.1, this.2, rfl, rfl⟩))
    | _ => exact .inr (.inr (.inr (.inl ⟨i, h, rfl, rfl⟩)))
  · subst h
    exact .inr (.inr (.inr (.inr ⟨rfl, wholeOps_end os, cutOps_end os⟩)))
  · exact .inl ⟨List.getElem?_eq_none (by rw [wholeOps_len]; omega), List.getElem?_eq_none (by rw [cutOps_len]; omega)⟩
theorem cut_labels {os : List Op} (hl : ∀ o ∈ os, ∀ l ∈ o.labels, 0 ≤ l ∧ l ≤ (os.length : Int)) : ∀ o ∈ cutOps os, ∀ l ∈ o.labels, 0 ≤ l ∧ l ≤ ((cutOps os).length : Int) := by
  intro o ho l hlo
  obtain ⟨i, hi⟩ := List.mem_iff_getElem?.mp ho
  rw [cutOps_len]
  rcases at_cases os hl i with ⟨_, h⟩ | ⟨_, _, h⟩ | ⟨l', _, h0, h1, _, h⟩ | ⟨p, _, _, h⟩ | ⟨_, _, h⟩ <;> rw [h] at hi <;> cases hi
  · simp [Op.labels] at hlo
  · simp [Op.labels] at hlo; subst hlo; omega
  · simp [Op.labels] at hlo
  · simp [Op.labels] at hlo
theorem press_at {C : List Op} {i : Nat} {o : Op} (h : C[i]? = some o) (ho : o ≠ .non) : (pressedOps C)[(cnt (C.take i)).toNat]? = some (o.re (ahd (ahdAll C))) := by
  unfold pressedOps
  rw [List.getElem?_map, kept_idx h ho, Option.map_some]
theorem sim (os : List Op) (ns : List Int) (hl : ∀ o ∈ os, ∀ l ∈ o.labels, 0 ≤ l ∧ l ≤ (os.length : Int)) :
    ∀ k k' pl d, k ≤ k' → ((runR (wholeOps os) ns k pl d).1 = true → runR (pressedOps (cutOps os)) ns k' (cnt ((cutOps os).take pl)).toNat d = runR (wholeOps os) ns k pl d) ∧
      ((runR (wholeOps os) ns k pl d).1 = false → (runR (wholeOps os) ns k pl d).2 <+: (runR (pressedOps (cutOps os)) ns k' (cnt ((cutOps os).take pl)).toNat d).2) := by
  intro k
  induction k with
  | zero => intro k' pl d _; exact ⟨fun h => (by rw [runR] at h; cases h), fun _ => by rw [runR]; exact run_ext _ _ _ _ _⟩
  | succ k ih =>
    intro k' pl d hk
    have hcl := cutOps_len os
    rcases at_cases os hl pl with ⟨h, _⟩ | ⟨hlt, h, h'⟩ | ⟨l, hlt, h0, h1, h, h'⟩ | ⟨p, hlt, h, h'⟩ | ⟨hlt, h, h'⟩
    · rw [runR, h]
      exact ⟨fun h => (by cases h), fun _ => run_ext _ _ _ _ _⟩
    · have := ih k' (pl + 1) d (by omega)
      rw [cnt_non h'] at this
      rw [runR, h]
      dsimp only
      rw [show ((pl : Int) + 1).toNat = pl + 1 by omega]
      exact this
    · obtain ⟨k', rfl⟩ : ∃ q, k' = q + 1 := ⟨k' - 1, by omega⟩
      have hp := press_at h' (by simp)
      rw [runR, h, runR, hp]
      dsimp only [Op.re]
      by_cases hc : ((ns.getD (d.length % ns.length) 0) + d.length) % 2 = 0
      · rw [if_pos hc, if_pos hc]
        have := ih k' (pl + 1) d (by omega)
        rw [cnt_op h' (by simp), show (cnt ((cutOps os).take pl) + 1).toNat = (cnt ((cutOps os).take pl)).toNat + 1 by have := cnt_nonneg ((cutOps os).take pl); omega] at this
        exact this
      · rw [if_neg hc, if_neg hc]
        rw [ahd_at _ h0 (by rw [hcl]; omega)]
        exact ih k' l.toNat d (by omega)
    · obtain ⟨k', rfl⟩ : ∃ q, k' = q + 1 := ⟨k' - 1, by omega⟩
      have hp := press_at h' (by simp)
      rw [runR, h, runR, hp]
      dsimp only [Op.re]
      have := ih k' (pl + 1) (d ++ [dispOf (.tuple [sD "display", .int p])]) (by omega)
      rw [cnt_op h' (by simp), show (cnt ((cutOps os).take pl) + 1).toNat = (cnt ((cutOps os).take pl)).toNat + 1 by have := cnt_nonneg ((cutOps os).take pl); omega] at this
      exact this
    · obtain ⟨k', rfl⟩ : ∃ q, k' = q + 1 := ⟨k' - 1, by omega⟩
      have hp := press_at h' (by simp)
      rw [runR, h, runR, hp]
      dsimp only [Op.re]
      exact ⟨fun _ => rfl, fun h => by cases h⟩
theorem runs_end {os : List Op} {ns ds : List Int} (hl : ∀ o ∈ os, ∀ l ∈ o.labels, 0 ≤ l ∧ l ≤ (os.length : Int)) (h : runR (wholeOps os) ns 40 0 [] = (true, ds)) : runR (pressedD (cutOps os)) ns 40 0 [] = (true, ds) := by
  rw [pressedD_eq (cut_labels hl)]
  have := (sim os ns hl 40 40 0 [] (Nat.le_refl _)).1 (by rw [h])
  rw [h] at this
  exact this
theorem runs_cut {os : List Op} {ns ds es : List Int} {b : Bool} (hl : ∀ o ∈ os, ∀ l ∈ o.labels, 0 ≤ l ∧ l ≤ (os.length : Int)) (h : runR (wholeOps os) ns 40 0 [] = (false, ds)) (h' : runR (pressedD (cutOps os)) ns 40 0 [] = (b, es)) : es.take ds.length = ds := by
  rw [pressedD_eq (cut_labels hl)] at h'
  have := (sim os ns hl 40 40 0 [] (Nat.le_refl _)).2 (by rw [h])
  rw [h] at this
  have h2 : runR (pressedOps (cutOps os)) ns 40 (cnt ((cutOps os).take 0)).toNat [] = (b, es) := h'
  rw [h2] at this
  obtain ⟨t, ht⟩ := this
  dsimp only at ht
  rw [← ht]
  exact List.take_left' rfl
theorem run_whole {os : List Op} (hl : ∀ o ∈ os, ∀ l ∈ o.labels, 0 ≤ l ∧ l ≤ (os.length : Int)) : RunOps (wholeOps os) := by
  refine ⟨by rw [wholeOps_len]; omega, fun i o ho => ?_⟩
  rw [wholeOps_len]
  rcases at_cases os hl i with ⟨h, _⟩ | ⟨hlt, h, _⟩ | ⟨l, hlt, h0, h1, h, _⟩ | ⟨p, hlt, h, _⟩ | ⟨hlt, h, _⟩ <;> rw [h] at ho <;> cases ho
  · exact ⟨by omega, by omega⟩
  · exact ⟨by omega, by omega, by omega⟩
  · exact ⟨⟨p, rfl⟩, by omega⟩
  · rfl
theorem cnt_last {os : List Op} {i : Nat} (hi : i ≤ os.length) : cnt ((cutOps os).take i) < cnt (cutOps os) := by
  have h1 := cnt_op (cutOps_end os) (by simp)
  rw [show os.length + 1 = (cutOps os).length from (cutOps_len os).symm, List.take_length] at h1
  have := cnt_mono (cutOps os) hi
  omega
theorem run_left {os : List Op} (hl : ∀ o ∈ os, ∀ l ∈ o.labels, 0 ≤ l ∧ l ≤ (os.length : Int)) : RunOps (pressedD (cutOps os)) := by
  rw [pressedD_eq (cut_labels hl)]
  have hcl := cutOps_len os
  have hpl := pressed_len (cutOps os)
  refine ⟨?_, fun j o ho => ?_⟩
  · have := cnt_last (os := os) (Nat.zero_le _)
    have := cnt_nonneg ((cutOps os).take 0)
    omega
  · unfold pressedOps at ho
    rw [List.getElem?_map] at ho
    obtain ⟨o', ho', rfl⟩ := Option.map_eq_some_iff.mp ho
    obtain ⟨i, hi, hne, hc⟩ := kept_from ho'
    rcases at_cases os hl i with ⟨_, h⟩ | ⟨hlt, _, h⟩ | ⟨l, hlt, h0, h1, _, h⟩ | ⟨p, hlt, _, h⟩ | ⟨hlt, _, h⟩ <;> rw [h] at hi <;> cases hi
    · exact absurd rfl hne
    · have a1 := cnt_op h (by simp)
      have a2 := cnt_last (os := os) (i := i + 1) (by omega)
      have a3 := cnt_last (os := os) (i := l.toNat) (by omega)
      have a4 := cnt_nonneg ((cutOps os).take l.toNat)
      refine ⟨?_, ?_, ?_⟩
      · rw [ahd_at _ h0 (by omega)]; exact a4
      · rw [ahd_at _ h0 (by omega)]; omega
      · omega
    · have a1 := cnt_op h (by simp)
      have a2 := cnt_last (os := os) (i := i + 1) (by omega)
      exact ⟨⟨p, rfl⟩, by omega⟩
    · rfl
theorem pressedD_len {os : List Op} (hl : ∀ o ∈ os, ∀ l ∈ o.labels, 0 ≤ l ∧ l ≤ (os.length : Int)) : ((pressedD os).length : Int) = cnt os := by
  rw [pressedD_eq hl, pressed_len]
end S_PL
section S_R4a
theorem add_vs_s {prog : Program} {w : World} {A : Around} {E : Value → Shared → Prop} {s : Shared} {h₀ : Heap} {L l b : Addr} {m : Str → Option Value} {news : List (Addr × Obj)} {vs ws : List Value} {n k : Nat} {Q : Value → Shared → Prop} (F : Fr h₀ L s.heap m) (N : News h₀ L s.heap news) (h1 : (l, listOf vs.toArray n) ∈ news) (h2 : (b, listOf ws.toArray k) ∈ news) (hz : vs.length + ws.length ≤ 1000)
    (h : ∀ D h', Fr h₀ L h' m → News h₀ L h' ((D, listOf (vs ++ ws).toArray 0) :: news) → (∀ p ∈ news, p.1 < D) → Q (.ref D) { s with heap := h' }) : wpAny (model prog w) A (binaryOp .Add (.ref l) (.ref b)) Q E s :=
  add_lists F N (News.isList N h1) (News.isList N h2) (fun h' F' N' => h _ h' F' N' fun p hp => Heap.lt_size (N p hp).1) (by rw [sizeLine_eq]; walk_at "om")
theorem add_vs {prog : Program} {w : World} {A : Around} {E : Value → Shared → Prop} {hp9 : Heap} {gn9 : Array GenState} {dr9 : Drawn} {tk9 : Nat} {os9 : OsState} {h₀ : Heap} {L l b : Addr} {m : Str → Option Value} {news : List (Addr × Obj)} {vs ws : List Value} {n k : Nat} {Q : Value → Shared → Prop} (F : Fr h₀ L hp9 m) (N : News h₀ L hp9 news) (h1 : (l, listOf vs.toArray n) ∈ news) (h2 : (b, listOf ws.toArray k) ∈ news) (hz : vs.length + ws.length ≤ 1000) (h : ∀ D h', Fr h₀ L h' m → News h₀ L h' ((D, listOf (vs ++ ws).toArray 0) :: news) → (∀ p ∈ news, p.1 < D) → Q (.ref D) ⟨h', gn9, dr9, tk9, os9⟩) :
    wpAny (model prog w) A (binaryOp .Add (.ref l) (.ref b)) Q E ⟨hp9, gn9, dr9, tk9, os9⟩ :=
  add_vs_s (s := ⟨hp9, gn9, dr9, tk9, os9⟩) F N h1 h2 hz h
theorem item_last1 {prog : Program} {w : World} {A : Around} {E : Value → Shared → Prop} {s : Shared} {h₀ : Heap} {L l : Addr} {news : List (Addr × Obj)} {value slice : Expr} {vs : List Value} {v : Value} {u : Tok} {n : Nat} {Q : Value → Shared → Prop} (N : News h₀ L s.heap news) (hm : (l, listOf (vs.toArray.push v) n) ∈ news) (h : Q v s)
    (hs : subscripted slice false (.ref l) (.int (-1) u) = operate [.ref l, .int (-1) u] (getItem (.ref l) (.int (-1) u)) := by with_unfolding_all rfl) :
    wpAny (model prog w) A (subscriptTail value slice (.ref l) (.int (-1) u)) Q E s := by
  refine kde_neg (vs := vs ++ [v]) (j := vs.length) ?_ (by decide) (by decide) ?_ ?_ h hs
  · have := News.isList N hm
    rw [List.push_toArray] at this
    exact this
  · unfold seqIndex?
    simp
    walk_at "om"
  · simp
theorem eqv_same {d : Dat} (h : kqdOk 9 d = true) : PyData.eqv (kqdP d) (kqdP d) = true := (kqd_eqv 9 d d 9 h h).mpr rfl
theorem eq_same {prog : Program} {w : World} {A : Around} {E : Value → Shared → Prop} {s : Shared} {h₀ : Heap} {L : Addr} {news : List (Addr × Obj)} {x y : Value} {d : Dat} {Q : Value → Shared → Prop} (N : News h₀ L s.heap news) (hx : DatIn news x d) (hy : DatIn news y d) (hk : kqdOk 9 d = true) (hu : A.units + 64 < cLine) (h : Q (.bool true) s) :
    wpAny (model prog w) A (compareOp .Eq x y) Q E s := by
  obtain ⟨as, ra⟩ := kqd_in N 9 hx hk
  obtain ⟨bs, rb⟩ := kqd_in N 9 hy hk
  have la := kqd_lay 9 d hk
  have hs : SeqAt.shaped (kqdP d) = true := by unfold SeqAt.shaped; rw [la.1, Bool.true_and]; exact decide_eq_true (Nat.le_trans la.2 (by decide))
  exact eq_dataH ra rb hs hs hu (by rw [eqv_same hk]; exact h)
theorem ne_same {prog : Program} {w : World} {A : Around} {E : Value → Shared → Prop} {s : Shared} {h₀ : Heap} {L : Addr} {news : List (Addr × Obj)} {x y : Value} {d : Dat} {Q : Value → Shared → Prop} (N : News h₀ L s.heap news) (hx : DatIn news x d) (hy : DatIn news y d) (hk : kqdOk 9 d = true) (hu : A.units + 64 < cLine) (h : Q (.bool false) s) :
    wpAny (model prog w) A (compareOp .NotEq x y) Q E s := by
  obtain ⟨as, ra⟩ := kqd_in N 9 hx hk
  obtain ⟨bs, rb⟩ := kqd_in N 9 hy hk
  have la := kqd_lay 9 d hk
  have hs : SeqAt.shaped (kqdP d) = true := by unfold SeqAt.shaped; rw [la.1, Bool.true_and]; exact decide_eq_true (Nat.le_trans la.2 (by decide))
  exact ne_dataH ra rb hs hs hu (by rw [eqv_same hk]; exact h)
theorem ints_dat {vs : List Value} {ns : List Int} {news : List (Addr × Obj)} (h : IntsAre vs ns) : DatAll news vs (ns.map Dat.int) := by
  induction h with
  | nil => exact .nil
  | cons n t _ ih => exact .cons (.int n t) ih
theorem ints_ok (ns : List Int) (k : Nat) : kqdOk (k + 1) (.list (ns.map Dat.int)) = true := by
  simp [kqdOk]
/-- what the law puts into its list -/
noncomputable def lawOp (m : Nat) : Op → Prop
  | .non => True
  | .jump l => 0 ≤ l ∧ l ≤ m
  | .put d l => kqdOk 6 d = true ∧ 0 ≤ l ∧ l ≤ m
  | .choose a b => 0 ≤ a ∧ a ≤ m ∧ 0 ≤ b ∧ b ≤ m
  | .push d => kqdOk 6 d = true
  | _ => False
theorem lawOp_labels {m : Nat} {o : Op} (h : lawOp m o) : ∀ l ∈ o.labels, 0 ≤ l ∧ l ≤ (m : Int) := by
  intro l hl
  cases o <;> simp only [Op.labels, List.mem_cons, List.not_mem_nil, or_false] at hl <;> simp only [lawOp] at h
  · subst hl; exact h
  · subst hl; exact h.2
  · rcases hl with rfl | rfl
    · exact ⟨h.1, h.2.1⟩
    · exact h.2.2
theorem sok (x : String) (h : PyData.strOk (Str.ofString x) = true) (k : Nat) : kqdOk k (sD x) = true := by
  cases k <;> exact h
theorem kqd_up : ∀ (k : Nat) (d : Dat), kqdOk k d = true → kqdOk (k + 1) d = true := by
  intro k
  induction k with
  | zero => intro d h; cases d <;> simp_all [kqdOk]
  | succ k ih =>
    intro d h
    cases d with
    | tuple ds =>
      simp only [kqdOk, List.all_eq_true] at h ⊢
      exact fun x hx => ih x (h x hx)
    | list ds =>
      simp only [kqdOk, List.all_eq_true] at h ⊢
      exact fun x hx => ih x (h x hx)
    | _ => simp_all [kqdOk]
theorem so_jump : PyData.strOk (Str.ofString "jump") = true := by decide +kernel
theorem so_put : PyData.strOk (Str.ofString "put") = true := by decide +kernel
theorem so_choose : PyData.strOk (Str.ofString "choose") = true := by decide +kernel
theorem so_push : PyData.strOk (Str.ofString "push") = true := by decide +kernel
theorem so_test : PyData.strOk (Str.ofString "test") = true := by decide +kernel
theorem so_doo : PyData.strOk (Str.ofString "do") = true := by decide +kernel
theorem so_stop : PyData.strOk (Str.ofString "stop") = true := by decide +kernel
theorem so_sign : PyData.strOk (Str.ofString "sign") = true := by decide +kernel
theorem so_zero : PyData.strOk (Str.ofString "ZERO") = true := by decide +kernel
theorem so_number : PyData.strOk (Str.ofString "number") = true := by decide +kernel
theorem so_display : PyData.strOk (Str.ofString "display") = true := by decide +kernel
theorem so_end : PyData.strOk (Str.ofString "end") = true := by decide +kernel
theorem so_steps : PyData.strOk (Str.ofString "steps") = true := by decide +kernel
theorem so_row : PyData.strOk (Str.ofString "row") = true := by decide +kernel
theorem lawOp_ok {m : Nat} {o : Op} (h : lawOp m o) : kqdOk 7 o.dat = true := by
  cases o with
  | put d l => simp [Op.dat, kqdOk, so_jump, so_put, so_choose, so_push, so_test, so_doo, so_stop, so_sign, so_zero, so_number, so_display, so_end, so_steps, so_row, h.1]
  | push d => simp [Op.dat, kqdOk, so_jump, so_put, so_choose, so_push, so_test, so_doo, so_stop, so_sign, so_zero, so_number, so_display, so_end, so_steps, so_row, show kqdOk 6 d = true from h]
  | test d l => exact h.elim
  | deed d => exact h.elim
  | stop d => exact h.elim
  | _ => simp [Op.dat, kqdOk, so_jump, so_put, so_choose, so_push, so_test, so_doo, so_stop, so_sign, so_zero, so_number, so_display, so_end, so_steps, so_row]
theorem cut_ok {os : List Op} (hl : ∀ o ∈ os, ∀ l ∈ o.labels, 0 ≤ l ∧ l ≤ (os.length : Int)) : ∀ d ∈ (cutOps os).map Op.dat, kqdOk 8 d = true := by
  intro d hd
  obtain ⟨o, ho, rfl⟩ := List.mem_map.mp hd
  obtain ⟨i, hi⟩ := List.mem_iff_getElem?.mp ho
  rcases at_cases os hl i with ⟨_, h⟩ | ⟨_, _, h⟩ | ⟨l', _, h0, h1, _, h⟩ | ⟨p, _, _, h⟩ | ⟨_, _, h⟩ <;> rw [h] at hi <;> cases hi
  · rfl
  all_goals simp [Op.dat, tDat, kqdOk, so_jump, so_put, so_choose, so_push, so_test, so_doo, so_stop, so_sign, so_zero, so_number, so_display, so_end, so_steps, so_row]
theorem rng_size (n : Nat) : Builtin.Range.rangeSize 0 (n : Int) 1 = (n : Int) := by
  unfold Builtin.Range.rangeSize
  by_cases h : n = 0
  · subst h; rfl
  · rw [if_pos (by decide), if_pos (by walk_at "om")]
    rw [Int.ediv_one]; walk_at "om"
theorem rng_small {n : Nat} (h : n ≤ 1000) : Builtin.Range.small 0 (n : Int) 1 = true := by
  have e := rng_size n
  unfold Builtin.Range.small
  simp [e, Builtin.Range.rangeFitsLong]
  walk_at "om"
structure AS where
  ws : List Value
  nw : Nat
  cs : List Value
  nc : Nat
  tl : List (Addr × Obj)
  op : Option Value
noncomputable def Abv (wl ct : Addr) (rst : List (Addr × Obj)) : List (Addr × Obj) → Prop
  | [] => True
  | p :: r => (@LT.lt Nat _ wl p.1 ∧ @LT.lt Nat _ ct p.1 ∧ @LT.lt Nat _ 420 p.1 ∧ @LT.lt Nat _ 56 p.1 ∧ AllLt p.1 rst) ∧ Abv wl ct rst r
theorem Abv.fresh {wl ct : Addr} {o1 o2 o3 o4 : Obj} {rst : List (Addr × Obj)} : ∀ {add : List (Addr × Obj)}, Abv wl ct rst add → Fresh add ((wl, o1) :: (ct, o2) :: (420, o3) :: (56, o4) :: rst)
  | [], _ => fun _ h => nomatch h
  | p :: r, h => by
    intro q hq z hz
    rcases List.mem_cons.mp hq with rfl | hq
    · rcases List.mem_cons.mp hz with rfl | hz
      · exact Nat.ne_of_lt h.1.1
      · rcases List.mem_cons.mp hz with rfl | hz
        · exact Nat.ne_of_lt h.1.2.1
        · rcases List.mem_cons.mp hz with rfl | hz
          · exact Nat.ne_of_lt h.1.2.2.1
          · rcases List.mem_cons.mp hz with rfl | hz
            · exact Nat.ne_of_lt h.1.2.2.2.1
            · exact Nat.ne_of_lt (allLt_mem h.1.2.2.2.2 z hz)
    · exact Abv.fresh h.2 q hq z hz
theorem alike_turn {g h' : Heap} {L wl ct : Addr} {ps : Array Value} {os : List Op} {i : Nat} {o : Op} {c : AS} {rst add : List (Addr × Obj)} {Q : Flow → Shared → Prop} {s₁ : Shared} {tk : Nat} {m₀ m' : Str → Option Value} {a b : Value} {opv : Option Value}
    (F : Fr g L h' m') (N : News g L h' (add ++ (wl, listOf (c.ws.toArray.push a) (c.nw + 1)) :: (ct, listOf (c.cs.toArray.push b) (c.nc + 1)) :: (420, tabObj #[]) :: (56, tabObj ps) :: rst)) (ha : Abv wl ct rst add)
    (hm : ∀ y, y ≠ Str.ofString "place" → m' y = if y = Str.ofString "op" then opv else m₀ y) (ho : os[i]? = some o) (hs1 : DatAll c.tl c.ws ((wholeUp os i).map Op.dat)) (hs2 : DatAll c.tl c.cs ((cutUp os i).map Op.dat))
    (da : DatIn (add ++ c.tl) a (wholeOp i o).dat) (db : DatIn (add ++ c.tl) b (cutOp i o).dat) :
    TPost g L (Str.ofString "place") (fun c y => if y = Str.ofString "op" then c.op else m₀ y) (fun c => [(wl, listOf c.ws.toArray c.nw), (ct, listOf c.cs.toArray c.nc), (420, tabObj #[]), (56, tabObj ps)]) (fun c => c.tl)
      (fun c => DatAll c.tl c.ws ((wholeUp os (i + 1)).map Op.dat) ∧ DatAll c.tl c.cs ((cutUp os (i + 1)).map Op.dat)) c rst Q s₁ .next { s₁ with heap := h', toks := tk } := by
  rw [List.push_toArray, List.push_toArray] at N
  have up : ∀ p ∈ c.tl, p ∈ add ++ c.tl := fun p hp => List.mem_append.mpr (.inr hp)
  refine TPost.fin ⟨c.ws ++ [a], c.nw + 1, c.cs ++ [b], c.nc + 1, add ++ c.tl, opv⟩ add F N ?_ rfl (Abv.fresh ha) hm ⟨?_, ?_⟩
  · intro p hp
    simp only [List.cons_append, List.nil_append, List.mem_cons, List.mem_append] at hp ⊢
    rcases hp with h | h | h | h | h | h <;> simp [h]
  · show DatAll (add ++ c.tl) (c.ws ++ [a]) _
    rw [wholeUp_succ ho, List.map_append]
    exact (hs1.mono up).append (.one da)
  · show DatAll (add ++ c.tl) (c.cs ++ [b]) _
    rw [cutUp_succ ho, List.map_append]
    exact (hs2.mono up).append (.one db)
end S_R4a
section S_R4b
mutual
theorem DatIn.monoC {news news' : List (Addr × Obj)} (hs : ∀ p ∈ news, (p.2.cls = .type "tuple" ∨ p.2.cls = .type "list") → p ∈ news') : ∀ {v : Value} {d : Dat}, DatIn news v d → DatIn news' v d
  | _, _, .none => .none
  | _, _, .bool b => .bool b
  | _, _, .int i t => .int i t
  | _, _, .str x t => .str x t
  | _, _, .bytes b t => .bytes b t
  | _, _, .tuple h r => .tuple (hs _ h (.inl rfl)) (DatAll.monoC hs r)
  | _, _, .list h r => .list (hs _ h (.inr rfl)) (DatAll.monoC hs r)
theorem DatAll.monoC {news news' : List (Addr × Obj)} (hs : ∀ p ∈ news, (p.2.cls = .type "tuple" ∨ p.2.cls = .type "list") → p ∈ news') : ∀ {vs : List Value} {ds : List Dat}, DatAll news vs ds → DatAll news' vs ds
  | _, _, .nil => .nil
  | _, _, .cons h r => .cons (DatIn.monoC hs h) (DatAll.monoC hs r)
end
theorem law_run_call_s {w : World} {mean : ExcName → Option Value} {mg mb : Str → Option Value} {dp un : Nat} {gd : Option (List Code)} {cn : Str} {cs : Scope} {a : Addr} {ccd : Value} {cl : List (Str × Addr)} {outer : List Env} {A₀ : Around} {base g : Heap} {L : Addr} {m : Str → Option Value} {s : Shared} {Q E : Value → Shared → Prop}
    {lw cel : Addr} {vs cvs : List Value} {n cn0 : Nat} {os : List Op} {ns : List Int} {ps : Array Value} {tl news : List (Addr × Obj)}
    (B : Below A₀ base outer g) (F : Fr g L s.heap m) (X : (hd.heap_39 w.params).In g) (N : News g L s.heap news) (hsub : ∀ p ∈ (420, tabObj ps) :: tl, p ∈ news) (T : Top topProg LL mean mg mb g) (XB : (hd.heap_39 w.params).In base) (TB : Top topProg LL mean mg mb base) (D : KtsDicts (outer.filterMap (·.frame)) g) (hk : cs.kind = .function) (hdp : dp + 70 < recursionLimit) (hun : un + 1000 < cLine)
    (h420 : ∀ p ∈ tl, p.1 ≠ 420) (hT : Tab420 ps tl) (h1 : (lw, listOf vs.toArray n) ∈ tl) (hD : DatAll tl vs (os.map Op.dat)) (hlen : os.length ≤ 60) (h2 : (cel, listOf cvs.toArray cn0) ∈ tl) (hc : IntsAre cvs ns ∧ 0 < ns.length ∧ ns.length ≤ 60) (hro : RunOps os)
    (hret : ∀ tl3 ps' tp dl tx zs ds n b h' tk' g', KtsTurn (outer.filterMap (·.frame)) g g' → Fr g' L h' m → News g' L h' ((420, tabObj ps') :: tl3) → Below A₀ base outer g' → (hd.heap_39 w.params).In g' → Top topProg LL mean mg mb g' → KtsDicts (outer.filterMap (·.frame)) g' →
      (∀ p ∈ tl3, p.1 ≠ 420) → Tab420 ps' tl3 → (tp, tupO #[.str (if b = true then Str.ofString "end" else Str.ofString "steps") tx, .ref dl]) ∈ tl3 → (dl, listOf zs.toArray n) ∈ tl3 → (∀ p ∈ tl, p ∈ tl3) → IntsAre zs ds → runR os ns 40 0 [] = (b, ds) → Q (.ref tp) { s with heap := h', toks := tk' }) :
    wpAny (model PySem.Challenge.rw_pb0246_01.row.prog w) (ktrTop dp un gd cn cs L a ccd cl outer) (call (.ref 425) [.ref lw, .ref cel]) Q E s := by
  refine law_run_spec h1 hD hlen h2 hc h420 hT hro dp un gd cn cs a ccd cl outer A₀ base g L m s Q E B F X (news_sub N hsub) T XB TB D hk hdp hun ?_
  rintro r nw h' tk' g' T' F' N' B' X' Y' D' ⟨tp, dl, x, tx, zs, ds, n, b, add, ps', rfl, rfl, hf, hT', m1, m2, hz, hr, rfl⟩
  refine hret (add ++ tl) ps' tp dl tx zs ds n b h' tk' g' T' F' (news_sub N' fun p hp => ?_) B' X' Y' D' ?_ hT' (List.mem_append.mpr (.inl m1)) (List.mem_append.mpr (.inl m2)) (fun p hp => List.mem_append.mpr (.inr hp)) hz hr
  · simp only [List.mem_cons, List.mem_append] at hp ⊢
    rcases hp with h | h | h <;> simp [h]
  · intro p hp
    rcases List.mem_append.mp hp with hp | hp
    · exact Ne.symm (hf p hp (420, tabObj #[]) List.mem_cons_self)
    · exact h420 p hp
theorem law_run_call {w : World} {mean : ExcName → Option Value} {mg mb : Str → Option Value} {dp un : Nat} {gd : Option (List Code)} {cn : Str} {cs : Scope} {a : Addr} {ccd : Value} {cl : List (Str × Addr)} {outer : List Env} {A₀ : Around} {base g : Heap} {L : Addr} {m : Str → Option Value} {hp9 : Heap} {gn9 : Array GenState} {dr9 : Drawn} {tk9 : Nat} {os9 : OsState} {Q E : Value → Shared → Prop} {lw cel : Addr} {vs cvs : List Value} {n cn0 : Nat} {os : List Op} {ns : List Int} {ps : Array Value} {tl news : List (Addr × Obj)} (B : Below A₀ base outer g) (F : Fr g L hp9 m) (X : (hd.heap_39 w.params).In g) (N : News g L hp9 news) (hsub : ∀ p ∈ (420, tabObj ps) :: tl, p ∈ news) (T : Top topProg LL mean mg mb g) (XB : (hd.heap_39 w.params).In base) (TB : Top topProg LL mean mg mb base) (D : KtsDicts (outer.filterMap (·.frame)) g) (hk : cs.kind = .function) (hdp : dp + 70 < recursionLimit) (hun : un + 1000 < cLine) (h420 : ∀ p ∈ tl, p.1 ≠ 420) (hT : Tab420 ps tl) (h1 : (lw, listOf vs.toArray n) ∈ tl) (hD : DatAll tl vs (os.map Op.dat)) (hlen : os.length ≤ 60) (h2 : (cel, listOf cvs.toArray cn0) ∈ tl) (hc : IntsAre cvs ns ∧ 0 < ns.length ∧ ns.length ≤ 60) (hro : RunOps os) (hret : ∀ tl3 ps' tp dl tx zs ds n b h' tk' g', KtsTurn (outer.filterMap (·.frame)) g g' → Fr g' L h' m → News g' L h' ((420, tabObj ps') :: tl3) → Below A₀ base outer g' → (hd.heap_39 w.params).In g' → Top topProg LL mean mg mb g' → KtsDicts (outer.filterMap (·.frame)) g' →
      (∀ p ∈ tl3, p.1 ≠ 420) → Tab420 ps' tl3 → (tp, tupO #[.str (if b = true then Str.ofString "end" else Str.ofString "steps") tx, .ref dl]) ∈ tl3 → (dl, listOf zs.toArray n) ∈ tl3 → (∀ p ∈ tl, p ∈ tl3) → IntsAre zs ds → runR os ns 40 0 [] = (b, ds) → Q (.ref tp) ⟨h', gn9, dr9, tk', os9⟩) :
    wpAny (model PySem.Challenge.rw_pb0246_01.row.prog w) (ktrTop dp un gd cn cs L a ccd cl outer) (call (.ref 425) [.ref lw, .ref cel]) Q E ⟨hp9, gn9, dr9, tk9, os9⟩ :=
  law_run_call_s (s := ⟨hp9, gn9, dr9, tk9, os9⟩) B F X N hsub T XB TB D hk hdp hun h420 hT h1 hD hlen h2 hc hro hret
theorem pressed_cut_s {w : World} {mean : ExcName → Option Value} {mg mb : Str → Option Value} {dp un : Nat} {gd : Option (List Code)} {cn : Str} {cs : Scope} {a : Addr} {ccd : Value} {cl : List (Str × Addr)} {outer : List Env} {A₀ : Around} {base g : Heap} {L : Addr} {m : Str → Option Value} {s : Shared} {Q E : Value → Shared → Prop}
    {zl cc sl st wl ct : Addr} {ol ow oc : Obj} {t0 t1 t2 : Tok} {k0 kc ts : Nat} {cvs : List Value} {os : List Op} {ps : Array Value} {tl : List (Addr × Obj)}
    (B : Below A₀ base outer g) (F : Fr g L s.heap m) (X : (hd.heap_39 w.params).In g)
    (N : News g L s.heap ((zl, listOf #[.int 0 t0] k0) :: (cc, listOf (cvs ++ [Value.ref st]).toArray kc) :: (sl, ol) :: (st, ({ cls := .type "tuple", data := .seq #[.str (Str.ofString "stop") t1, .str (Str.ofString "end") t2] ts } : Obj)) :: (wl, ow) :: (ct, oc) :: (420, tabObj #[]) :: (56, tabObj ps) :: tl))
    (T : Top topProg LL mean mg mb g) (hk : cs.kind = .function) (hdp : dp + 40 < recursionLimit) (hun : un + 400 < cLine)
    (hs2 : DatAll tl cvs ((cutUp os os.length).map Op.dat)) (hlab : ∀ o ∈ os, ∀ l ∈ o.labels, 0 ≤ l ∧ l ≤ (os.length : Int)) (hlen : os.length ≤ 50) (hT : TabSt lamQ ps tl)
    (ho : (@LT.lt Nat _ 56 zl ∧ @LT.lt Nat _ 56 cc ∧ @LT.lt Nat _ 56 sl ∧ @LT.lt Nat _ 56 st ∧ @LT.lt Nat _ 56 wl ∧ @LT.lt Nat _ 56 ct) ∧ (@LT.lt Nat _ 420 zl ∧ @LT.lt Nat _ 420 cc ∧ @LT.lt Nat _ 420 sl ∧ @LT.lt Nat _ 420 st ∧ @LT.lt Nat _ 420 wl ∧ @LT.lt Nat _ 420 ct)) (hw3 : ∀ p ∈ tl, @Ne Nat p.1 420) (hw4 : ∀ p ∈ tl, @Ne Nat p.1 56)
    (hret : ∀ tl2 tp dl dz ys kl h' tk' ps', Fr g L h' m → News g L h' ((420, tabObj #[]) :: tl2) → (∀ p ∈ tl2, @Ne Nat p.1 420) → (tp, tupO #[.ref dl, .ref dz]) ∈ tl2 → (dl, listOf ys.toArray kl) ∈ tl2 → (wl, ow) ∈ tl2 → (56, tabObj ps') ∈ tl2 → (∀ p ∈ tl, p ∈ tl2) → DatAll tl2 ys ((pressedD (cutOps os)).map Op.dat) → Q (.ref tp) { s with heap := h', toks := tk' }) :
    wpAny (model PySem.Challenge.rw_pb0246_01.row.prog w) (ktrTop dp un gd cn cs L a ccd cl outer) (call (.ref 59) [.ref cc, .ref zl]) Q E s := by
  have hup : ∀ p ∈ tl, p ∈ (zl, listOf #[.int 0 t0] k0) :: (cc, listOf (cvs ++ [Value.ref st]).toArray kc) :: (sl, ol) :: (st, ({ cls := .type "tuple", data := .seq #[.str (Str.ofString "stop") t1, .str (Str.ofString "end") t2] ts } : Obj)) :: (wl, ow) :: (ct, oc) :: (420, tabObj #[]) :: tl := by
    intro p hp; simp [hp]
  refine Calls.use (pressed_spec (os := cutOps os) (bns := [0]) (vs := cvs ++ [Value.ref st]) (bvs := [Value.int 0 t0]) (ps := ps) (n := kc) (nb := k0)
    (rest := (zl, listOf #[.int 0 t0] k0) :: (cc, listOf (cvs ++ [Value.ref st]).toArray kc) :: (sl, ol) :: (st, ({ cls := .type "tuple", data := .seq #[.str (Str.ofString "stop") t1, .str (Str.ofString "end") t2] ts } : Obj)) :: (wl, ow) :: (ct, oc) :: (420, tabObj #[]) :: tl)
    (by simp) ?hD (cut_ok hlab) (by rw [cutOps_len]; walk_at "om") (cut_labels hlab) List.mem_cons_self ⟨.cons _ _ .nil, by simp⟩ ?hb ?h56 (hT.mono hup)) B F X N ?hs T hk hdp hun ?ret
  case hb => intro b hb; simp only [List.mem_cons, List.not_mem_nil, or_false] at hb; subst hb; exact ⟨Int.le_refl _, by walk_at "om"⟩
  case hs =>
    intro p hp
    simp only [List.mem_cons] at hp ⊢
    rcases hp with h | h | h | h | h | h | h | h | h <;> simp [h]
  case h56 =>
    intro p hp
    simp only [List.mem_cons] at hp
    rcases hp with rfl | rfl | rfl | rfl | rfl | rfl | rfl | hp
    · exact Nat.ne_of_gt ho.1.1
    · exact Nat.ne_of_gt ho.1.2.1
    · exact Nat.ne_of_gt ho.1.2.2.1
    · exact Nat.ne_of_gt ho.1.2.2.2.1
    · exact Nat.ne_of_gt ho.1.2.2.2.2.1
    · exact Nat.ne_of_gt ho.1.2.2.2.2.2
    · exact (by decide : @Ne Nat 420 56)
    · exact hw4 p hp
  case hD =>
    unfold cutOps
    rw [List.map_append]
    exact (hs2.mono hup).append (.one (.tuple (vs := [Value.str (Str.ofString "stop") t1, Value.str (Str.ofString "end") t2]) (n := ts) (by simp) (.cons (.str _ _) (.cons (.str _ _) .nil))))
  case ret =>
    rintro r nw h' tk' F' N' ⟨tp, dl, dz, ys, zs, kl, kz, add, ps', rfl, rfl, hf, hT', m1, m2, m3, hys, hzs⟩
    refine hret ((56, tabObj ps') :: (add ++ ((zl, listOf #[.int 0 t0] k0) :: (cc, listOf (cvs ++ [Value.ref st]).toArray kc) :: (sl, ol) :: (st, ({ cls := .type "tuple", data := .seq #[.str (Str.ofString "stop") t1, .str (Str.ofString "end") t2] ts } : Obj)) :: (wl, ow) :: (ct, oc) :: tl))) tp dl dz ys kl h' tk' ps' F' (news_sub N' ?_) ?_ (List.mem_cons_of_mem _ (List.mem_append.mpr (.inl m1))) ?_ (by simp) (by simp) (fun p hp => by simp [hp]) (DatAll.monoC ?_ hys)
    · intro p hp
      simp only [List.mem_cons, List.mem_append] at hp ⊢
      rcases hp with h | h | h | h | h | h | h | h | h | h <;> simp [h]
    · intro p hp
      rcases List.mem_cons.mp hp with rfl | hp
      · exact (by decide : @Ne Nat 56 420)
      rcases List.mem_append.mp hp with hp | hp
      · exact Ne.symm (hf p hp (420, tabObj #[]) (by simp))
      · simp only [List.mem_cons] at hp
        rcases hp with rfl | rfl | rfl | rfl | rfl | rfl | hp
        · exact Nat.ne_of_gt ho.2.1
        · exact Nat.ne_of_gt ho.2.2.1
        · exact Nat.ne_of_gt ho.2.2.2.1
        · exact Nat.ne_of_gt ho.2.2.2.2.1
        · exact Nat.ne_of_gt ho.2.2.2.2.2.1
        · exact Nat.ne_of_gt ho.2.2.2.2.2.2
        · exact hw3 p hp
    · simp only [List.mem_cons, List.mem_append] at m2 ⊢
      rcases m2 with h | h | h | h | h | h | h | h | h
      case inr.inr.inr.inr.inr.inr.inr.inl => exact absurd (congrArg (fun p => p.2.cls) h) (by simp [tabObj, W.listOf])
      all_goals simp [h]
    · intro p hp hcl
      simp only [List.mem_cons, List.mem_append] at hp ⊢
      rcases hp with h | h | h | h | h | h | h | h | h
      case inr.inr.inr.inr.inr.inr.inr.inl => subst h; exact absurd hcl (by simp [tabObj])
      all_goals simp [h]
theorem pressed_cut {w : World} {mean : ExcName → Option Value} {mg mb : Str → Option Value} {dp un : Nat} {gd : Option (List Code)} {cn : Str} {cs : Scope} {a : Addr} {ccd : Value} {cl : List (Str × Addr)} {outer : List Env} {A₀ : Around} {base g : Heap} {L : Addr} {m : Str → Option Value} {hp9 : Heap} {gn9 : Array GenState} {dr9 : Drawn} {tk9 : Nat} {os9 : OsState} {Q E : Value → Shared → Prop} {zl cc sl st wl ct : Addr} {ol ow oc : Obj} {t0 t1 t2 : Tok} {k0 kc ts : Nat} {cvs : List Value} {os : List Op} {ps : Array Value} {tl : List (Addr × Obj)} (B : Below A₀ base outer g) (F : Fr g L hp9 m) (X : (hd.heap_39 w.params).In g) (N : News g L hp9 ((zl, listOf #[.int 0 t0] k0) :: (cc, listOf (cvs ++ [Value.ref st]).toArray kc) :: (sl, ol) :: (st, ({ cls := .type "tuple", data := .seq #[.str (Str.ofString "stop") t1, .str (Str.ofString "end") t2] ts } : Obj)) :: (wl, ow) :: (ct, oc) :: (420, tabObj #[]) :: (56, tabObj ps) :: tl)) (T : Top topProg LL mean mg mb g) (hk : cs.kind = .function) (hdp : dp + 40 < recursionLimit) (hun : un + 400 < cLine) (hs2 : DatAll tl cvs ((cutUp os os.length).map Op.dat)) (hlab : ∀ o ∈ os, ∀ l ∈ o.labels, 0 ≤ l ∧ l ≤ (os.length : Int)) (hlen : os.length ≤ 50) (hT : TabSt lamQ ps tl) (ho : (@LT.lt Nat _ 56 zl ∧ @LT.lt Nat _ 56 cc ∧ @LT.lt Nat _ 56 sl ∧ @LT.lt Nat _ 56 st ∧ @LT.lt Nat _ 56 wl ∧ @LT.lt Nat _ 56 ct) ∧ (@LT.lt Nat _ 420 zl ∧ @LT.lt Nat _ 420 cc ∧ @LT.lt Nat _ 420 sl ∧ @LT.lt Nat _ 420 st ∧ @LT.lt Nat _ 420 wl ∧ @LT.lt Nat _ 420 ct)) (hw3 : ∀ p ∈ tl, @Ne Nat p.1 420) (hw4 : ∀ p ∈ tl, @Ne Nat p.1 56) (hret : ∀ tl2 tp dl dz ys kl h' tk' ps', Fr g L h' m → News g L h' ((420, tabObj #[]) :: tl2) → (∀ p ∈ tl2, @Ne Nat p.1 420) → (tp, tupO #[.ref dl, .ref dz]) ∈ tl2 → (dl, listOf ys.toArray kl) ∈ tl2 → (wl, ow) ∈ tl2 → (56, tabObj ps') ∈ tl2 → (∀ p ∈ tl, p ∈ tl2) → DatAll tl2 ys ((pressedD (cutOps os)).map Op.dat) → Q (.ref tp) ⟨h', gn9, dr9, tk', os9⟩) :
    wpAny (model PySem.Challenge.rw_pb0246_01.row.prog w) (ktrTop dp un gd cn cs L a ccd cl outer) (call (.ref 59) [.ref cc, .ref zl]) Q E ⟨hp9, gn9, dr9, tk9, os9⟩ :=
  pressed_cut_s (s := ⟨hp9, gn9, dr9, tk9, os9⟩) B F X N T hk hdp hun hs2 hlab hlen hT ho hw3 hw4 hret
theorem whole_run_s {w : World} {mean : ExcName → Option Value} {mg mb : Str → Option Value} {dp un : Nat} {gd : Option (List Code)} {cn : Str} {cs : Scope} {a : Addr} {ccd : Value} {cl : List (Str × Addr)} {outer : List Env} {A₀ : Around} {base g : Heap} {L : Addr} {m : Str → Option Value} {s : Shared} {Q E : Value → Shared → Prop}
    {ww sl st cel : Addr} {ol : Obj} {t1 t2 : Tok} {kw ts : Nat} {wvs cvs : List Value} {cn0 : Nat} {os : List Op} {ns : List Int} {tl : List (Addr × Obj)}
    (B : Below A₀ base outer g) (F : Fr g L s.heap m) (X : (hd.heap_39 w.params).In g)
    (N : News g L s.heap ((ww, listOf (wvs ++ [Value.ref st]).toArray kw) :: (sl, ol) :: (st, ({ cls := .type "tuple", data := .seq #[.str (Str.ofString "stop") t1, .str (Str.ofString "end") t2] ts } : Obj)) :: (420, tabObj #[]) :: tl))
    (T : Top topProg LL mean mg mb g) (XB : (hd.heap_39 w.params).In base) (TB : Top topProg LL mean mg mb base) (D : KtsDicts (outer.filterMap (·.frame)) g) (hk : cs.kind = .function) (hdp : dp + 70 < recursionLimit) (hun : un + 1000 < cLine)
    (h420 : ∀ p ∈ tl, @Ne Nat p.1 420) (hs : DatAll tl wvs ((wholeUp os os.length).map Op.dat)) (hlab : ∀ o ∈ os, ∀ l ∈ o.labels, 0 ≤ l ∧ l ≤ (os.length : Int)) (hlen : os.length ≤ 50)
    (h2 : (cel, listOf cvs.toArray cn0) ∈ tl) (hc : IntsAre cvs ns ∧ 0 < ns.length ∧ ns.length ≤ 60) (ho : @LT.lt Nat _ 420 ww ∧ @LT.lt Nat _ 420 sl ∧ @LT.lt Nat _ 420 st)
    (hret : ∀ tl3 ps' tp dl tx zs ds n b h' tk' g', KtsTurn (outer.filterMap (·.frame)) g g' → Fr g' L h' m → News g' L h' ((420, tabObj ps') :: tl3) → Below A₀ base outer g' → (hd.heap_39 w.params).In g' → Top topProg LL mean mg mb g' → KtsDicts (outer.filterMap (·.frame)) g' →
      (∀ p ∈ tl3, p.1 ≠ 420) → Tab420 ps' tl3 → (tp, tupO #[.str (if b = true then Str.ofString "end" else Str.ofString "steps") tx, .ref dl]) ∈ tl3 → (dl, listOf zs.toArray n) ∈ tl3 → (∀ p ∈ tl, p ∈ tl3) → IntsAre zs ds → runR (wholeOps os) ns 40 0 [] = (b, ds) → Q (.ref tp) { s with heap := h', toks := tk' }) :
    wpAny (model PySem.Challenge.rw_pb0246_01.row.prog w) (ktrTop dp un gd cn cs L a ccd cl outer) (call (.ref 425) [.ref ww, .ref cel]) Q E s := by
  have hup : ∀ p ∈ tl, p ∈ (ww, listOf (wvs ++ [Value.ref st]).toArray kw) :: (sl, ol) :: (st, ({ cls := .type "tuple", data := .seq #[.str (Str.ofString "stop") t1, .str (Str.ofString "end") t2] ts } : Obj)) :: tl := fun p hp => List.mem_cons_of_mem _ (List.mem_cons_of_mem _ (List.mem_cons_of_mem _ hp))
  refine law_run_call (os := wholeOps os) (vs := wvs ++ [Value.ref st]) (n := kw) (tl := (ww, listOf (wvs ++ [Value.ref st]).toArray kw) :: (sl, ol) :: (st, ({ cls := .type "tuple", data := .seq #[.str (Str.ofString "stop") t1, .str (Str.ofString "end") t2] ts } : Obj)) :: tl) (ps := #[])
    B F X N ?hs T XB TB D hk hdp hun ?h4 (.inl rfl) List.mem_cons_self ?hD (by rw [wholeOps_len]; walk_at "om") (hup _ h2) hc (run_whole hlab) ?hret
  case hs =>
    intro p hp
    simp only [List.mem_cons] at hp ⊢
    rcases hp with h | h | h | h | h <;> simp [h]
  case h4 =>
    intro p hp
    simp only [List.mem_cons] at hp
    rcases hp with rfl | rfl | rfl | hp
    · exact Nat.ne_of_gt ho.1
    · exact Nat.ne_of_gt ho.2.1
    · exact Nat.ne_of_gt ho.2.2
    · exact h420 p hp
  case hD =>
    unfold wholeOps
    rw [List.map_append]
    exact (hs.mono hup).append (.one (.tuple (vs := [Value.str (Str.ofString "stop") t1, Value.str (Str.ofString "end") t2]) (n := ts) (List.mem_cons_of_mem _ (List.mem_cons_of_mem _ List.mem_cons_self)) (.cons (.str _ _) (.cons (.str _ _) .nil))))
  case hret =>
    intro tl3 ps' tp dl tx zs ds n b h' tk' g' T' F' N' B' X' Y' D' e1 e2 e3 e4 e5
    exact hret tl3 ps' tp dl tx zs ds n b h' tk' g' T' F' N' B' X' Y' D' e1 e2 e3 e4 (fun p hp => e5 _ (hup p hp))
theorem whole_run {w : World} {mean : ExcName → Option Value} {mg mb : Str → Option Value} {dp un : Nat} {gd : Option (List Code)} {cn : Str} {cs : Scope} {a : Addr} {ccd : Value} {cl : List (Str × Addr)} {outer : List Env} {A₀ : Around} {base g : Heap} {L : Addr} {m : Str → Option Value} {hp9 : Heap} {gn9 : Array GenState} {dr9 : Drawn} {tk9 : Nat} {os9 : OsState} {Q E : Value → Shared → Prop} {ww sl st cel : Addr} {ol : Obj} {t1 t2 : Tok} {kw ts : Nat} {wvs cvs : List Value} {cn0 : Nat} {os : List Op} {ns : List Int} {tl : List (Addr × Obj)} (B : Below A₀ base outer g) (F : Fr g L hp9 m) (X : (hd.heap_39 w.params).In g) (N : News g L hp9 ((ww, listOf (wvs ++ [Value.ref st]).toArray kw) :: (sl, ol) :: (st, ({ cls := .type "tuple", data := .seq #[.str (Str.ofString "stop") t1, .str (Str.ofString "end") t2] ts } : Obj)) :: (420, tabObj #[]) :: tl)) (T : Top topProg LL mean mg mb g) (XB : (hd.heap_39 w.params).In base) (TB : Top topProg LL mean mg mb base) (D : KtsDicts (outer.filterMap (·.frame)) g) (hk : cs.kind = .function) (hdp : dp + 70 < recursionLimit) (hun : un + 1000 < cLine) (h420 : ∀ p ∈ tl, @Ne Nat p.1 420) (hs : DatAll tl wvs ((wholeUp os os.length).map Op.dat)) (hlab : ∀ o ∈ os, ∀ l ∈ o.labels, 0 ≤ l ∧ l ≤ (os.length : Int)) (hlen : os.length ≤ 50) (h2 : (cel, listOf cvs.toArray cn0) ∈ tl) (hc : IntsAre cvs ns ∧ 0 < ns.length ∧ ns.length ≤ 60) (ho : @LT.lt Nat _ 420 ww ∧ @LT.lt Nat _ 420 sl ∧ @LT.lt Nat _ 420 st) (hret : ∀ tl3 ps' tp dl tx zs ds n b h' tk' g', KtsTurn (outer.filterMap (·.frame)) g g' → Fr g' L h' m → News g' L h' ((420, tabObj ps') :: tl3) → Below A₀ base outer g' → (hd.heap_39 w.params).In g' → Top topProg LL mean mg mb g' → KtsDicts (outer.filterMap (·.frame)) g' →
      (∀ p ∈ tl3, p.1 ≠ 420) → Tab420 ps' tl3 → (tp, tupO #[.str (if b = true then Str.ofString "end" else Str.ofString "steps") tx, .ref dl]) ∈ tl3 → (dl, listOf zs.toArray n) ∈ tl3 → (∀ p ∈ tl, p ∈ tl3) → IntsAre zs ds → runR (wholeOps os) ns 40 0 [] = (b, ds) → Q (.ref tp) ⟨h', gn9, dr9, tk', os9⟩) :
    wpAny (model PySem.Challenge.rw_pb0246_01.row.prog w) (ktrTop dp un gd cn cs L a ccd cl outer) (call (.ref 425) [.ref ww, .ref cel]) Q E ⟨hp9, gn9, dr9, tk9, os9⟩ :=
  whole_run_s (s := ⟨hp9, gn9, dr9, tk9, os9⟩) B F X N T XB TB D hk hdp hun h420 hs hlab hlen h2 hc ho hret
theorem run_len (os : List Op) (ns : List Int) : ∀ k pl d, (runR os ns k pl d).2.length ≤ d.length + k
  | 0, _, d => Nat.le_refl _
  | k + 1, pl, d => by
    rw [runR]
    split
    · have := run_len os ns k; exact Nat.le_trans (this _ d) (by walk_at "om")
    · split
      · exact Nat.le_trans (run_len os ns k _ d) (by walk_at "om")
      · exact Nat.le_trans (run_len os ns k _ d) (by walk_at "om")
    · refine Nat.le_trans (run_len os ns k _ _) ?_
      rw [List.length_append]; simp; walk_at "om"
    · exact Nat.le_add_right _ _
    · exact Nat.le_add_right _ _
theorem run_short {os : List Op} {ns ds : List Int} {vs : List Value} {b : Bool} (hz : IntsAre vs ds) (h : runR os ns 40 0 [] = (b, ds)) : vs.length ≤ 40 := by
  have := run_len os ns 40 0 []
  rw [h] at this
  rw [hz.length]
  simpa using this
theorem ints_take {vs : List Value} {ns : List Int} (h : IntsAre vs ns) : ∀ k, IntsAre (vs.take k) (ns.take k) := by
  induction h with
  | nil => intro k; simpa using IntsAre.nil
  | cons n t _ ih =>
    intro k
    cases k with
    | zero => exact .nil
    | succ k => exact .cons n t (ih k)
end S_R4b
section S_R4
local macro_rules | `(tactic| walk_at "binaryOp Add ref ref") => `(tactic| (k_here; (with_reducible show wpAny _ _ (binaryOp _ (Value.ref _) (Value.ref _)) _ _ _); k_dflt (refine' add_vs ?F ?N ?a ?b ?z ?_; (case F => k_asm); (case N => k_asm); (case a => k_mem); (case b => k_mem); (case z => first | omega | (simp; omega))); intro D' h' F' N' l1; (try k_lt l1)))
local macro_rules | `(tactic| walk_at "subscriptTail Name UnaryOp ref int") => `(tactic| (k_here; (with_reducible show wpAny _ _ (subscriptTail _ _ (Value.ref _) (Value.int (-1) _)) _ _ _); k_dflt (refine' item_last1 ?N ?m ?_; (case N => k_asm); (case m => k_mem))))
local macro_rules | `(tactic| walk_at "call ref") => `(tactic| ((with_reducible show wpAny _ _ (call (Value.ref 425) _) _ _ _); refine Halt.out ?_))
local macro_rules | `(tactic| walk_at "call ref") => `(tactic| ((with_reducible show wpAny _ _ (call (Value.ref 59) _) _ _ _); refine Halt.out ?_))
local macro_rules | `(tactic| walk_at "callWith builtin:list.append") => `(tactic| (k_here; dsimp only; first | with_reducible refine callWith_method1 ?_ | refine callWith_method1 ?_))
local macro_rules | `(tactic| walk_at "compareOp Eq ref ref") => `(tactic| refine Halt.out ?_)
theorem alike_spec {w : World} {mean : ExcName → Option Value} {mg mb : Str → Option Value} {lo cel : Addr} {vs cvs : List Value} {n cn0 : Nat} {os : List Op} {ns : List Int} {ps : Array Value} {rest : List (Addr × Obj)}
    (h1 : (lo, listOf vs.toArray n) ∈ rest) (hD : DatAll rest vs (os.map Op.dat)) (hlen : os.length ≤ 50) (hlaw : ∀ o ∈ os, lawOp os.length o) (h2 : (cel, listOf cvs.toArray cn0) ∈ rest) (hc : IntsAre cvs ns ∧ 0 < ns.length ∧ ns.length ≤ 60) (h420 : ∀ p ∈ rest, p.1 ≠ 420 ∧ p.1 ≠ 56) (hT : TabSt lamQ ps rest) :
    CallsT w mean mg mb 80 1200 ((420, tabObj #[]) :: (56, tabObj ps) :: rest) 432 [.ref lo, .ref cel] (fun r news' => r = .bool true ∧ ∃ ps1 ps2, news' = (420, tabObj ps1) :: (56, tabObj ps2) :: rest) := by
  have hvl : vs.length = os.length := by rw [hD.length, List.length_map]
  have hsz : vs.length ≤ 1000 := by walk_at "om"
  intro dp un gd cn cs a ccd cl outer A₀ base h₀ L m s Q E B F X N T XB TB D hk hd hu hret
  refine wpAny_call ?_
  k_dflt (refine' enterT B F X N T XB TB D ?kA ?kF ?kK ?k6 ?k7 ?k8 ?k9 ?kB ?kD ?_ ?c2 ?c3 ?c4; (case kA => exact rfl); (case kF => exact rfl); (case kK => assumption); (case k6 => k_is); (case k7 => k_is); (case k8 => ktr_room); (case k9 => exact BindsTo.of_eq rfl); (case kB => exact rfl); (case kD => decide +kernel); (case c2 => exact rfl); (case c3 => exact rfl); (case c4 => exact rfl); k_whole; intro g' L' h' tk' cells' FG' F' N' Y' B' X' T' l1 D'; (try (have l2' := l1; k_lt l2')); cases Y'; (try simp only [List.cons_append, List.nil_append] at N'); (try dsimp only); (try k_fold))
  (with_reducible rename KtsDicts _ _ => D1)
  (with_reducible rename Frag.In _ _ => X1)
  refine noE ?_
  k_steps
  rename_i wl hA1 lA ct hA2 lB dt hA3 lC hA4 hA5 hA6 FA NA hz tkz tz uz vz RZ FZ NZ KZ
  refine ⟨?_⟩
  try refine settle (g0 := s.gens) (d0 := s.drawn) (o0 := s.os) rfl rfl rfl fun tk8 => ?_
  clear FA NA KZ
  have hne : @Ne Nat wl ct := by walk_at "om"
  refine for_rng (σ := AS) (n := vs.length) (fun m c y => if y = Str.ofString "op" then c.op else m y) (fun c => [(wl, listOf c.ws.toArray c.nw), (ct, listOf c.cs.toArray c.nc), (420, tabObj #[]), (56, tabObj ps)]) (fun c => c.tl) [wl, ct, 420, 56]
    (fun i c => DatAll c.tl c.ws ((wholeUp os i).map Op.dat) ∧ DatAll c.tl c.cs ((cutUp os i).map Op.dat)) ⟨[], 0, [], 0, rest, none⟩ rfl RZ (rng_small hsz) (rng_size _) FZ NZ ?hsub (fun _ => rfl) ?hoff ?hm ?h0 ?turn ?done
  case hsub =>
    intro p hp
    simp only [List.cons_append, List.nil_append, List.mem_cons] at hp ⊢
    rcases hp with h | h | h | h | h <;> simp [h]
  case hoff =>
    intro p hp a ha
    simp only [List.mem_cons, List.not_mem_nil, or_false] at ha
    rcases ha with rfl | rfl | rfl | rfl
    · exact allLt_ne (l := rest) lA.2.2 p hp
    · exact allLt_ne (l := rest) lB.2.2.2 p hp
    · exact (h420 p hp).1
    · exact (h420 p hp).2
  case hm =>
    intro y hy
    by_cases h : y = Str.ofString "op"
    · subst h; exact rfl
    · exact (if_neg h).symm
  case h0 => exact ⟨.nil, .nil⟩
  case turn =>
    intro i ti c rst h tk hi hs hr1 hr2 hr3 F' N' W8 hW8
    obtain ⟨hs1, hs2⟩ := hs
    have hoff1 : ∀ p ∈ rst, p.1 ≠ wl := fun p hp => hr3 p hp wl List.mem_cons_self
    have hoff2 : ∀ p ∈ rst, p.1 ≠ ct := fun p hp => hr3 p hp ct (List.mem_cons_of_mem _ List.mem_cons_self)
    have hrr : ∀ p ∈ rest, p ∈ rst := fun p hp => hr1 _ (hr2 _ hp)
    have mlo := hrr _ h1
    obtain ⟨v, hv⟩ : ∃ v, vs[i]? = some v := ⟨_, List.getElem?_eq_getElem hi⟩
    obtain ⟨o, ho, hvo⟩ := ds_at hD hv
    have hv' : vs[((i : Int)).toNat]? = some v := by rw [Int.toNat_natCast]; exact hv
    have hlo := hlaw o (List.mem_of_getElem? ho)
    have hz1 : c.ws.length ≤ 1000 := by rw [hs1.length, List.length_map, wholeUp_len]; walk_at "om"
    have hz2 : c.cs.length ≤ 1000 := by rw [hs2.length, List.length_map, cutUp_len]; walk_at "om"
    clear FZ NZ RZ
    dsimp only [List.cons_append, List.nil_append] at N'
    cases o with
    | non =>
      -- <<non
      cases hvo
      k_steps
      (with_reducible rename News _ _ _ _ => N9)
      (with_reducible rename Fr _ _ _ _ => F9)
      refine hW8 _ _ ?_
      refine alike_turn (add := [_]) (opv := ?opN) F9 N9 ⟨⟨by walk_at "om", by walk_at "om", by walk_at "om", by walk_at "om", by walk_at "M.lt"⟩, trivial⟩ ?gmN ho hs1 hs2 (.tuple List.mem_cons_self (.cons (.str _ _) (.cons (.int _ _) .nil))) .none
      case gmN =>
        intro y hy
        by_cases h : y = Str.ofString "op"
        · subst h; exact rfl
        · simp only [if_neg h, if_neg hy]
      -- non>>
    | put d l =>
      -- <<put
      cases hvo with
      | tuple hm hall =>
      cases hall with
      | cons e0 hall =>
      cases hall with
      | cons e1 hall =>
      cases hall with
      | cons e2 hall =>
      cases hall
      cases e0
      cases e2
      replace hm := hrr _ hm
      k_steps
      (with_reducible rename News _ _ _ _ => N9)
      (with_reducible rename Fr _ _ _ _ => F9)
      refine hW8 _ _ ?_
      refine alike_turn (add := [_, _, _, _]) (opv := ?opP) F9 N9 ⟨⟨by walk_at "om", by walk_at "om", by walk_at "om", by walk_at "om", by walk_at "M.lt"⟩, ⟨by walk_at "om", by walk_at "om", by walk_at "om", by walk_at "om", by walk_at "M.lt"⟩, ⟨by walk_at "om", by walk_at "om", by walk_at "om", by walk_at "om", by walk_at "M.lt"⟩, ⟨by walk_at "om", by walk_at "om", by walk_at "om", by walk_at "om", by walk_at "M.lt"⟩, trivial⟩ ?gmP ho hs1 hs2 (.tuple List.mem_cons_self (.cons (.str _ _) (.cons (.tuple (List.mem_cons_of_mem _ List.mem_cons_self) (.cons (.str _ _) (.cons (.str _ _) (.cons (.tuple (List.mem_cons_of_mem _ (List.mem_cons_of_mem _ List.mem_cons_self)) (.cons (.str _ _) (.cons (.tuple (List.mem_cons_of_mem _ (List.mem_cons_of_mem _ (List.mem_cons_of_mem _ List.mem_cons_self))) (.cons (.int _ _) (.cons (.int _ _) .nil))) .nil))) .nil)))) (.cons (.int _ _) .nil)))) (.tuple List.mem_cons_self (.cons (.str _ _) (.cons (.tuple (List.mem_cons_of_mem _ List.mem_cons_self) (.cons (.str _ _) (.cons (.str _ _) (.cons (.tuple (List.mem_cons_of_mem _ (List.mem_cons_of_mem _ List.mem_cons_self)) (.cons (.str _ _) (.cons (.tuple (List.mem_cons_of_mem _ (List.mem_cons_of_mem _ (List.mem_cons_of_mem _ List.mem_cons_self))) (.cons (.int _ _) (.cons (.int _ _) .nil))) .nil))) .nil)))) (.cons (.int _ _) .nil))))
      case gmP =>
        intro y hy
        by_cases h : y = Str.ofString "op"
        · subst h; exact rfl
        · simp only [if_neg h, if_neg hy]
      -- put>>
    | jump l =>
      -- <<jump
      cases hvo with
      | tuple hm hall =>
      cases hall with
      | cons e0 hall =>
      cases hall with
      | cons e1 hall =>
      cases hall
      cases e0
      replace hm := hrr _ hm
      k_steps
      (with_reducible rename News _ _ _ _ => N9)
      (with_reducible rename Fr _ _ _ _ => F9)
      refine hW8 _ _ ?_
      refine alike_turn (add := [_, _]) (opv := ?opJ) F9 N9 ⟨⟨by walk_at "om", by walk_at "om", by walk_at "om", by walk_at "om", by walk_at "M.lt"⟩, ⟨by walk_at "om", by walk_at "om", by walk_at "om", by walk_at "om", by walk_at "M.lt"⟩, trivial⟩ ?gmJ ho hs1 hs2 (.tuple List.mem_cons_self (.cons (.str _ _) (.cons (.tuple (List.mem_cons_of_mem _ List.mem_cons_self) (.cons (.str _ _) (.cons (.int _ _) .nil))) .nil))) (.tuple List.mem_cons_self (.cons (.str _ _) (.cons (.tuple (List.mem_cons_of_mem _ List.mem_cons_self) (.cons (.str _ _) (.cons (.int _ _) .nil))) .nil)))
      case gmJ =>
        intro y hy
        by_cases h : y = Str.ofString "op"
        · subst h; exact rfl
        · simp only [if_neg h, if_neg hy]
      -- jump>>
    | choose a b =>
      -- <<choose
      cases hvo with
      | tuple hm hall =>
      cases hall with
      | cons e0 hall =>
      cases hall with
      | cons e1 hall =>
      cases hall
      cases e0
      replace hm := hrr _ hm
      k_steps
      (with_reducible rename News _ _ _ _ => N9)
      (with_reducible rename Fr _ _ _ _ => F9)
      refine hW8 _ _ ?_
      refine alike_turn (add := [_, _]) (opv := ?opC) F9 N9 ⟨⟨by walk_at "om", by walk_at "om", by walk_at "om", by walk_at "om", by walk_at "M.lt"⟩, ⟨by walk_at "om", by walk_at "om", by walk_at "om", by walk_at "om", by walk_at "M.lt"⟩, trivial⟩ ?gmC ho hs1 hs2 (.tuple List.mem_cons_self (.cons (.str _ _) (.cons (.tuple (List.mem_cons_of_mem _ List.mem_cons_self) (.cons (.str _ _) (.cons (.int _ _) .nil))) .nil))) (.tuple List.mem_cons_self (.cons (.str _ _) (.cons (.tuple (List.mem_cons_of_mem _ List.mem_cons_self) (.cons (.str _ _) (.cons (.int _ _) .nil))) .nil)))
      case gmC =>
        intro y hy
        by_cases h : y = Str.ofString "op"
        · subst h; exact rfl
        · simp only [if_neg h, if_neg hy]
      -- choose>>
    | push d =>
      -- <<push
      cases hvo with
      | tuple hm hall =>
      cases hall with
      | cons e0 hall =>
      cases hall with
      | cons e1 hall =>
      cases hall with
      | cons e2 hall =>
      cases hall
      cases e0
      replace hm := hrr _ hm
      k_steps
      (with_reducible rename News _ _ _ _ => N9)
      (with_reducible rename Fr _ _ _ _ => F9)
      refine hW8 _ _ ?_
      refine alike_turn (add := [_, _]) (opv := ?opU) F9 N9 ⟨⟨by walk_at "om", by walk_at "om", by walk_at "om", by walk_at "om", by walk_at "M.lt"⟩, ⟨by walk_at "om", by walk_at "om", by walk_at "om", by walk_at "om", by walk_at "M.lt"⟩, trivial⟩ ?gmU ho hs1 hs2 (.tuple List.mem_cons_self (.cons (.str _ _) (.cons (.tuple (List.mem_cons_of_mem _ List.mem_cons_self) (.cons (.str _ _) (.cons (.int _ _) .nil))) .nil))) (.tuple List.mem_cons_self (.cons (.str _ _) (.cons (.tuple (List.mem_cons_of_mem _ List.mem_cons_self) (.cons (.str _ _) (.cons (.int _ _) .nil))) .nil)))
      case gmU =>
        intro y hy
        by_cases h : y = Str.ofString "op"
        · subst h; exact rfl
        · simp only [if_neg h, if_neg hy]
      -- push>>
    | _ => exact hlo.elim
  case done =>
    -- <<done
    intro c u h tk hs hsub hr3 F' N'
    obtain ⟨hs1, hs2⟩ := hs
    have hlab : ∀ o ∈ os, ∀ l ∈ o.labels, 0 ≤ l ∧ l ≤ (os.length : Int) := fun o ho => lawOp_labels (hlaw o ho)
    have hz1 : c.ws.length ≤ 100 := by rw [hs1.length, List.length_map, wholeUp_len]; walk_at "om"
    have hz2 : c.cs.length ≤ 100 := by rw [hs2.length, List.length_map, cutUp_len]; walk_at "om"
    rw [hvl] at hs1 hs2
    have hw1 : ∀ p ∈ c.tl, p.1 ≠ wl := fun p hp => hr3 p hp wl (by simp)
    have hw2 : ∀ p ∈ c.tl, p.1 ≠ ct := fun p hp => hr3 p hp ct (by simp)
    have hw3 : ∀ p ∈ c.tl, p.1 ≠ 420 := fun p hp => hr3 p hp 420 (by simp)
    have hw4 : ∀ p ∈ c.tl, p.1 ≠ 56 := fun p hp => hr3 p hp 56 (by simp)
    clear FZ NZ RZ
    dsimp only [List.cons_append, List.nil_append] at N'
    k_steps
    refine ⟨?_⟩
    try refine settle (g0 := s.gens) (d0 := s.drawn) (o0 := s.os) rfl rfl rfl fun tk8 => ?_
    (with_reducible rename News _ _ _ _ => N7)
    (with_reducible rename Fr _ _ _ _ => F7)
    k_dflt (refine pressed_cut B' F7 X1 N7 (by assumption) rfl (by ktr_room) (by ktr_units) hs2 hlab hlen (hT.mono hsub) ?ho hw3 hw4 ?hret)
    case ho => walk_at "om"
    case hret =>
      intro tl2 tp dl dz ys kl h2' tk2' ps2 F2 N2 hw5 m1 m2 m3 m56 hup hys
      clear F7 N7
      have hDw : DatAll tl2 c.ws ((wholeUp os os.length).map Op.dat) := hs1.mono hup
      have hys1 := hys.length
      rw [List.length_map] at hys1
      k_steps
      refine ⟨?_⟩
      try refine settle (g0 := s.gens) (d0 := s.drawn) (o0 := s.os) rfl rfl rfl fun tk8 => ?_
      (with_reducible rename News _ _ _ _ => N8)
      (with_reducible rename Fr _ _ _ _ => F8)
      k_dflt (refine whole_run B' F8 X1 N8 (by assumption) XB TB D1 rfl (by ktr_room) (by ktr_units) hw5 hDw hlab hlen (hup _ (hsub _ h2)) hc ?ho2 ?hret2)
      case ho2 => walk_at "om"
      case hret2 =>
        intro tl3 ps3 tp3 dl3 tx3 zs3 ds3 n3 b3 h3 tk3 g3 T3 F3 N3 B3 X3 Y3 D3 hw6 hTb m5 m6 hup3 hz3 hr3
        clear F8 N8
        have hlenL : (pressedD (cutOps os)).length ≤ 60 := by
          have e1 := pressedD_len (cut_labels hlab)
          have e2 := cnt_le (cutOps os) (cutOps os).length
          rw [List.take_length, cutOps_len] at e2
          walk_at "om"
        cases b3 with
        | true =>
          rw [if_pos rfl] at m5
          k_steps
          refine ⟨?_⟩
          try refine settle (g0 := s.gens) (d0 := s.drawn) (o0 := s.os) rfl rfl rfl fun tk8 => ?_
          (with_reducible rename News _ _ _ _ => N9)
          (with_reducible rename Fr _ _ _ _ => F9)
          k_dflt (refine law_run_call B3 F9 X3 N9 (fun _ h => h) Y3 XB TB D3 rfl (by ktr_room) (by ktr_units) hw6 hTb (hup3 _ m2) (hys.mono hup3) hlenL (hup3 _ (hup _ (hsub _ h2))) hc (run_left hlab) ?hret3)
          case hret3 =>
            intro tl4 ps4 tp4 dl4 tx4 zs4 ds4 n4 b4 h4 tk4 g4 T4 F4 N4 B4 X4 Y4 D4 hw7 hTc m7 m8 hup4 hz4 hr4
            have hE := runs_end hlab hr3
            rw [hr4] at hE
            obtain ⟨rfl, rfl⟩ := Prod.mk.inj hE
            rw [if_pos rfl] at m7
            clear F9 N9
            k_steps
            refine ⟨?_⟩
            try refine settle (g0 := s.gens) (d0 := s.drawn) (o0 := s.os) rfl rfl rfl fun tk8 => ?_
            (with_reducible rename News _ _ _ _ => N10)
            (with_reducible rename Fr _ _ _ _ => F10)
            k_dflt (refine eq_same (d := .tuple [sD "end", .list (ds4.map Dat.int)]) N10 (.tuple (List.mem_cons_of_mem _ List.mem_cons_self) (.cons (.str _ _) (.cons (.list (List.mem_cons_of_mem _ (List.mem_cons_of_mem _ (List.mem_cons_of_mem _ m8))) (ints_dat hz4)) .nil))) (.tuple List.mem_cons_self (.cons (.str _ _) (.cons (.list (List.mem_cons_of_mem _ (List.mem_cons_of_mem _ (List.mem_cons_of_mem _ (hup4 _ m6)))) (ints_dat hz3)) .nil))) (by simp [kqdOk, so_end]) (by ke_room) ?_)
            refine ⟨_, _, _, (420, tabObj ps4) :: (56, tabObj ps2) :: rest, T3.trans T4, F10, news_sub N10 ?subA, fun h₀' t1 f1 n1 b1 x1 y1 d1 => hret _ _ _ _ h₀' t1 f1 n1 b1 x1 y1 d1 ⟨rfl, _, _, rfl⟩⟩
            case subA =>
              intro p hp
              rcases List.mem_cons.mp hp with rfl | hp
              · exact List.mem_cons_of_mem _ (List.mem_cons_of_mem _ List.mem_cons_self)
              · rcases List.mem_cons.mp hp with rfl | hp
                · exact List.mem_cons_of_mem _ (List.mem_cons_of_mem _ (List.mem_cons_of_mem _ (hup4 _ (hup3 _ m56))))
                · exact List.mem_cons_of_mem _ (List.mem_cons_of_mem _ (List.mem_cons_of_mem _ (hup4 _ (hup3 _ (hup _ (hsub _ hp))))))
        | false =>
          rw [if_neg (by decide)] at m5
          k_steps
          refine ⟨?_⟩
          try refine settle (g0 := s.gens) (d0 := s.drawn) (o0 := s.os) rfl rfl rfl fun tk8 => ?_
          (with_reducible rename News _ _ _ _ => N9)
          (with_reducible rename Fr _ _ _ _ => F9)
          k_dflt (refine law_run_call B3 F9 X3 N9 (fun _ h => h) Y3 XB TB D3 rfl (by ktr_room) (by ktr_units) hw6 hTb (hup3 _ m2) (hys.mono hup3) hlenL (hup3 _ (hup _ (hsub _ h2))) hc (run_left hlab) ?hret4)
          case hret4 =>
            intro tl4 ps4 tp4 dl4 tx4 zs4 ds4 n4 b4 h4 tk4 g4 T4 F4 N4 B4 X4 Y4 D4 hw7 hTc m7 m8 hup4 hz4 hr4
            have hE := runs_cut hlab hr3 hr4
            have m6' := hup4 _ m6
            have hzl3 := run_short hz3 hr3
            have hzl4 := run_short hz4 hr4
            clear F9 N9
            have hz5 : IntsAre (zs4.take zs3.length) ds3 := by
              have h := ints_take hz4 zs3.length
              have e : ds4.take zs3.length = ds3 := by rw [hz3.length]; exact hE
              rw [e] at h
              exact h
            k_steps
            refine ⟨?_⟩
            try refine settle (g0 := s.gens) (d0 := s.drawn) (o0 := s.os) rfl rfl rfl fun tk8 => ?_
            (with_reducible rename News _ _ _ _ => N10)
            (with_reducible rename Fr _ _ _ _ => F10)
            rw [pick_upto _ (Int.natCast_nonneg _), Int.toNat_natCast] at N10
            k_dflt (refine eq_same (d := .list (ds3.map Dat.int)) N10 (.list List.mem_cons_self (ints_dat hz5)) (.list (List.mem_cons_of_mem _ (List.mem_cons_of_mem _ m6')) (ints_dat hz3)) (by simp [kqdOk]) (by ke_room) ?_)
            refine ⟨_, _, _, (420, tabObj ps4) :: (56, tabObj ps2) :: rest, T3.trans T4, F10, news_sub N10 ?subB, fun h₀' t1 f1 n1 b1 x1 y1 d1 => hret _ _ _ _ h₀' t1 f1 n1 b1 x1 y1 d1 ⟨rfl, _, _, rfl⟩⟩
            case subB =>
              intro p hp
              rcases List.mem_cons.mp hp with rfl | hp
              · exact List.mem_cons_of_mem _ (List.mem_cons_self)
              · rcases List.mem_cons.mp hp with rfl | hp
                · exact List.mem_cons_of_mem _ ((List.mem_cons_of_mem _ (hup4 _ (hup3 _ m56))))
                · exact List.mem_cons_of_mem _ ((List.mem_cons_of_mem _ (hup4 _ (hup3 _ (hup _ (hsub _ hp))))))
    -- done>>
end S_R4
section S_S0
noncomputable def lawFn : Stmt := PySem.Challenge.pw_pb0246_01.main.body.getLastD (.Pass ⟨0, 0, 0, 0⟩)
noncomputable def lawBody : List Stmt := match lawFn with
  | .FunctionDef _ _ body _ _ _ _ _ _ _ => body
  | _ => []
noncomputable def lawScope : Scope := match lawFn with
  | .FunctionDef _ _ _ _ _ _ sc _ _ _ => sc
  | _ => default
noncomputable abbrev lawRest (k : Nat) : List Stmt := lawBody.drop k
end S_S0
section G_S1_S4
local macro_rules | `(tactic| walk_at "eval Name") => `(tactic| (k_here; name_kind "local"; (with_reducible rename Fr _ _ _ _ => kF); k_dflt (refine' nameX_L kF ?c ?_ ?a ?b; (case a => rfl); (case b => rfl); (case c => assumption); k_whole)))
section S_S1
theorem cells_spec_s {w : World} {mean : ExcName → Option Value} {mg mb : Str → Option Value} {dp un : Nat} {gd : Option (List Code)} {cn : Str} {a : Addr} {ccd : Value} {outer : List Env} {A₀ : Around} {base g : Heap} {L : Addr} {m : Str → Option Value} {s : Shared} {Q E : Value → Shared → Prop}
    {sa : Addr} {svs : List Value} {sns : List Int} {news : List (Addr × Obj)} {p1 p2 p3 p4 p5 p6 p7 p8 p9 : Pos}
    (B : Below A₀ base outer g) (F : Fr g L s.heap m) (X : (hd.heap_39 w.params).In g) (N : News g L s.heap news) (T : Top topProg LL mean mg mb g) (hdp : dp + 100 < recursionLimit) (hun : un + 2000 < cLine)
    (hS : g.IsList sa svs.toArray) (hI : IntsAre svs sns) (h63 : sns.length ≤ 63) (m1 : m (Str.ofString "script") = some (.ref sa))
    (hQ : ∀ cel vs n ns h' tk', Fr g L h' m → News g L h' ((cel, listOf vs.toArray n) :: news) → (∀ p ∈ news, p.1 < cel) → IntsAre vs ns → 0 < ns.length → ns.length ≤ 60 → Q (.ref cel) { s with heap := h', toks := tk' }) :
    wpAny (model PySem.Challenge.rw_pb0246_01.row.prog w) (ktrTop dp un gd cn lawScope L a ccd (cellsFrom (L + 1) lawScope.names []) outer)
      (eval (.BoolOp .Or [.Call (.Name (Str.ofString "list") p1) [.Subscript (.Name (Str.ofString "script") p2) (.Slice none (some (.Constant (Const.int 60) 0 p3)) none p4) p5] [] p6, .List [.Constant (Const.int 0) 0 p7] p8] p9) (envX cn lawScope L a ccd (cellsFrom (L + 1) lawScope.names []))) Q E s := by
  conv in (lawScope) => whnf
  k_steps
  all_goals (with_reducible rename News _ _ _ _ => NN)
  · refine hQ _ _ _ _ _ _ (by assumption) (news_sub NN (sub_top (sub_skip sub_refl))) (allLt_mem (by walk_at "M.lt")) (by assumption) (by assumption) (by rw [List.length_take]; walk_at "om")
  · refine hQ _ [_] _ _ _ _ (by assumption) (news_sub NN (sub_top (sub_skip (sub_skip sub_refl)))) (allLt_mem (by walk_at "M.lt")) (.cons _ _ .nil) (by simp) (by simp)
theorem cells_spec {w : World} {mean : ExcName → Option Value} {mg mb : Str → Option Value} {dp un : Nat} {gd : Option (List Code)} {cn : Str} {a : Addr} {ccd : Value} {outer : List Env} {A₀ : Around} {base g : Heap} {L : Addr} {m : Str → Option Value} {hp9 : Heap} {gn9 : Array GenState} {dr9 : Drawn} {tk9 : Nat} {os9 : OsState} {Q E : Value → Shared → Prop} {sa : Addr} {svs : List Value} {sns : List Int} {news : List (Addr × Obj)} {p1 p2 p3 p4 p5 p6 p7 p8 p9 : Pos} (B : Below A₀ base outer g) (F : Fr g L hp9 m) (X : (hd.heap_39 w.params).In g) (N : News g L hp9 news) (T : Top topProg LL mean mg mb g) (hdp : dp + 100 < recursionLimit) (hun : un + 2000 < cLine) (hS : g.IsList sa svs.toArray) (hI : IntsAre svs sns) (h63 : sns.length ≤ 63) (m1 : m (Str.ofString "script") = some (.ref sa)) (hQ : ∀ cel vs n ns h' tk', Fr g L h' m → News g L h' ((cel, listOf vs.toArray n) :: news) → (∀ p ∈ news, p.1 < cel) → IntsAre vs ns → 0 < ns.length → ns.length ≤ 60 → Q (.ref cel) ⟨h', gn9, dr9, tk', os9⟩) :
    wpAny (model PySem.Challenge.rw_pb0246_01.row.prog w) (ktrTop dp un gd cn lawScope L a ccd (cellsFrom (L + 1) lawScope.names []) outer)
      (eval (.BoolOp .Or [.Call (.Name (Str.ofString "list") p1) [.Subscript (.Name (Str.ofString "script") p2) (.Slice none (some (.Constant (Const.int 60) 0 p3)) none p4) p5] [] p6, .List [.Constant (Const.int 0) 0 p7] p8] p9) (envX cn lawScope L a ccd (cellsFrom (L + 1) lawScope.names []))) Q E ⟨hp9, gn9, dr9, tk9, os9⟩ :=
  cells_spec_s (s := ⟨hp9, gn9, dr9, tk9, os9⟩) B F X N T hdp hun hS hI h63 m1 hQ
theorem re_ok {m : Nat} {o : Op} (f : Int → Int) (h : lawOp m o) : kqdOk 7 (o.re f).dat = true := by
  cases o with
  | put d l => simp [Op.re, Op.dat, kqdOk, so_put, h.1]
  | push d => simp [Op.re, Op.dat, kqdOk, so_push, show kqdOk 6 d = true from h]
  | test d l => exact h.elim
  | deed d => exact h.elim
  | stop d => exact h.elim
  | _ => simp [Op.re, Op.dat, kqdOk, so_jump, so_choose]
theorem re_some {o : Op} (f : Int → Int) (h : o ≠ .non) : (o.re f).dat ≠ Dat.none := by
  cases o <;> simp_all [Op.re, Op.dat]
theorem kept_mem {os : List Op} {o : Op} (h : o ∈ keptOps os) : o ∈ os ∧ o ≠ .non := by
  unfold keptOps at h
  rw [List.mem_filter] at h
  refine ⟨h.1, fun e => ?_⟩
  subst e
  exact absurd h.2 (by decide)
theorem left_dats {os : List Op} (hlaw : ∀ o ∈ os, lawOp os.length o) : (pressedD os).map Op.dat = (keptOps os).map fun o => (o.re (ahd (ahdAll os))).dat := by
  rw [pressedD_eq fun o ho => lawOp_labels (hlaw o ho), pressedOps, List.map_map]; rfl
theorem left_ok {os : List Op} (hlaw : ∀ o ∈ os, lawOp os.length o) : ∀ d ∈ (pressedD os).map Op.dat, kqdOk 7 d = true ∧ d ≠ .none := by
  intro d hd
  rw [left_dats hlaw] at hd
  obtain ⟨o, ho, rfl⟩ := List.mem_map.mp hd
  obtain ⟨h1, h2⟩ := kept_mem ho
  exact ⟨re_ok _ (hlaw o h1), re_some _ h2⟩
theorem ops_ok {os : List Op} (hlaw : ∀ o ∈ os, lawOp os.length o) : ∀ d ∈ os.map Op.dat, kqdOk 7 d = true := by
  intro d hd
  obtain ⟨o, ho, rfl⟩ := List.mem_map.mp hd
  exact lawOp_ok (hlaw o ho)
theorem two_ok {ds es : List Dat} (h1 : ∀ d ∈ ds, kqdOk 7 d = true) (h2 : ∀ d ∈ es, kqdOk 7 d = true) : kqdOk 9 (.tuple [.list ds, .list es]) = true := by
  simp only [kqdOk, List.all_cons, List.all_nil, Bool.and_true, Bool.and_eq_true, List.all_eq_true]
  exact ⟨h1, h2⟩
theorem int_ok (hs : List Int) (k : Nat) : ∀ d ∈ hs.map Dat.int, kqdOk k d = true := by
  intro d hd
  obtain ⟨x, _, rfl⟩ := List.mem_map.mp hd
  cases k <;> rfl
open Classical in
theorem none_in (os : List Op) : decide (Dat.none ∈ os.map Op.dat) = decide (cnt os < (os.length : Int)) := by
  rw [← hasNon_cnt]
  by_cases h : hasNon os = true
  · rw [h]; exact decide_eq_true ((hasNon_iff os).mpr h)
  · rw [Bool.eq_false_iff.mpr h]; exact decide_eq_false fun e => h ((hasNon_iff os).mp e)
end S_S1
section S_S3
local macro_rules | `(tactic| walk_at "call ref") => `(tactic| ((with_reducible show wpAny _ _ (call (Value.ref 432) _) _ _ _); refine Halt.out ?_))
local macro_rules | `(tactic| walk_at "call ref") => `(tactic| ((with_reducible show wpAny _ _ (call (Value.ref 59) _) _ _ _); refine Halt.out ?_))
local macro_rules | `(tactic| walk_at "compareOp Eq ref ref") => `(tactic| refine Halt.out ?_)
local macro_rules | `(tactic| walk_at "compareOp In") => `(tactic| refine Halt.out ?_)
local macro_rules | `(tactic| walk_at "eval BoolOp") => `(tactic| ((with_reducible show wpAny _ _ (eval (PySem.Expr.BoolOp PySem.BoolOp.Or _ _) _) _ _ _); refine Halt.out ?_))
theorem fr_up {g h : Heap} {g0 : Heap} {L : Addr} {m : Str → Option Value} (T : KtsTurn [] g0 g) (F : Fr g L h m) : Fr g0 L h m :=
  ⟨F.ns, fun b o e => F.keep b o (T.other b o e (by simp)), by rw [← T.size]; exact F.above⟩
theorem news_up {g h : Heap} {g0 : Heap} {L : Addr} {news : List (Addr × Obj)} (T : KtsTurn [] g0 g) (N : News g L h news) : News g0 L h news := fun p hp => ⟨(N p hp).1, (N p hp).2.1, by
  cases q : g0.get? p.1 with
  | none => rfl
  | some o =>
    have := T.other _ _ q (by simp)
    rw [(N p hp).2.2] at this; cases this⟩
theorem seg3 {w : World} {mean : ExcName → Option Value} {mg mb : Str → Option Value} {dp un : Nat} {gd : Option (List Code)} {cn : Str} {a : Addr} {ccd : Value} {A₀ : Around} {base g : Heap} {L : Addr} {m : Str → Option Value} {s : Shared} {Q : Flow → Shared → Prop} {E : Value → Shared → Prop}
    {sa ol dl dz : Addr} {svs ovs ys zs : List Value} {sns hs : List Int} {no kl kz : Nat} {os : List Op} {oc om : Obj} {M : Int} {tm : Tok} {ps : Array Value} {rest : List (Addr × Obj)}
    (B : Below A₀ base [] g) (F : Fr g L s.heap m) (X : (hd.heap_39 w.params).In g) (N : News g L s.heap ((420, tabObj #[]) :: (56, tabObj ps) :: rest)) (T : Top topProg LL mean mg mb g) (XB : (hd.heap_39 w.params).In base) (TB : Top topProg LL mean mg mb base) (hdp : dp + 200 < recursionLimit) (hun : un + 3000 < cLine)
    (hS : g.IsList sa svs.toArray) (hI : IntsAre svs sns) (h63 : sns.length ≤ 63) (m1 : m (Str.ofString "script") = some (.ref sa)) (m2 : m (Str.ofString "left") = some (.ref dl)) (m3 : m (Str.ofString "heads") = some (.ref dz))
    (c3 : (L + 1 + 1 + 1, oc) ∈ rest) (c3d : oc.data = .cell (some (.ref ol))) (c2 : (L + 1 + 1, om) ∈ rest) (c2d : om.data = .cell (some (.int M tm))) (hM : M = os.length)
    (hol : (ol, listOf ovs.toArray no) ∈ rest) (hD : DatAll rest ovs (os.map Op.dat)) (hlen : os.length ≤ 50) (hlaw : ∀ o ∈ os, lawOp os.length o)
    (hdl : (dl, listOf ys.toArray kl) ∈ rest) (hys : DatAll rest ys ((pressedD os).map Op.dat)) (hdz : (dz, listOf zs.toArray kz) ∈ rest) (hzs : IntsAre zs hs) (h420 : ∀ p ∈ rest, p.1 ≠ 420 ∧ p.1 ≠ 56) (hT : TabSt lamQ ps rest)
    (hQ : ∀ h' tk', (∀ b o, g.get? b = some o → h'.get? b = some o) → GrownAt 420 h' → GrownAt 56 h' → Q (.ret (.bool true)) { s with heap := h', toks := tk' }) :
    wpAny (model PySem.Challenge.rw_pb0246_01.row.prog w) (ktrTop dp un gd cn lawScope L a ccd (cellsFrom (L + 1) lawScope.names []) []) (execs (lawRest 11) (envX cn lawScope L a ccd (cellsFrom (L + 1) lawScope.names []))) Q E s := by
  conv in (lawRest 11) => whnf
  conv in (lawScope) => whnf
  k_steps
  refine ⟨?_⟩
  try refine settle (g0 := s.gens) (d0 := s.drawn) (o0 := s.os) rfl rfl rfl fun tk8 => ?_
  (with_reducible rename News _ _ _ _ => N1)
  (with_reducible rename Fr _ _ _ _ => F1)
  k_dflt (refine cells_spec B F1 X N1 T ?r1 ?u1 hS hI h63 m1 ?hQ1)
  case r1 => ktr_room
  case u1 => ktr_units
  case hQ1 =>
    intro cel vs n ns h1 tk1 F2 N2 l2 hi2 hp2 hl2
    have hcel : ∀ p ∈ (cel, listOf vs.toArray n) :: rest, p.1 ≠ 420 ∧ p.1 ≠ 56 := by
      intro p hp
      rcases List.mem_cons.mp hp with rfl | hp
      · exact ⟨Nat.ne_of_gt (l2 (420, tabObj #[]) (by simp)), Nat.ne_of_gt (l2 (56, tabObj ps) (by simp))⟩
      · exact h420 p hp
    have hsub2 : ∀ p ∈ (420, tabObj #[]) :: (56, tabObj ps) :: (cel, listOf vs.toArray n) :: rest, p ∈ (cel, listOf vs.toArray n) :: (420, tabObj #[]) :: (56, tabObj ps) :: rest := by
      intro p hp
      simp only [List.mem_cons] at hp ⊢
      rcases hp with h | h | h | h <;> simp [h]
    have hcr : ∀ p ∈ rest, p ∈ (cel, listOf vs.toArray n) :: rest := fun p hp => List.mem_cons_of_mem _ hp
    clear N1 F1
    k_steps
    refine ⟨?_⟩
    try refine settle (g0 := s.gens) (d0 := s.drawn) (o0 := s.os) rfl rfl rfl fun tk8 => ?_
    k_dflt (refine (alike_spec (hcr _ hol) (hD.mono hcr) hlen hlaw List.mem_cons_self ⟨hi2, hp2, hl2⟩ hcel (hT.mono hcr)) _ _ _ _ _ _ _ _ _ _ _ _ _ _ _ _ _ B F2 X (news_sub N2 hsub2) T XB TB ktsDicts_nil rfl ?r2 ?u2 ?hret)
    case r2 => ktr_room
    case u2 => ktr_units
    case hret =>
      rintro r nw h3 tk3 g3 T3 F3 N3 B3 X3 Y3 D3 ⟨rfl, ps1, ps2, rfl⟩
      have F4 := fr_up T3 F3
      have N4 := news_up T3 N3
      clear N3 F3 X3 Y3 D3 B3 N2 F2
      replace N4 := news_sub N4 (news' := (420, tabObj ps1) :: (56, tabObj ps2) :: rest) (by
        intro p hp
        simp only [List.mem_cons] at hp ⊢
        rcases hp with h | h | h <;> simp [h])
      have hyl := hys.length
      rw [List.length_map] at hyl
      have hyc : (ys.length : Int) = cnt os := by rw [hyl, pressedD_len fun o ho => lawOp_labels (hlaw o ho)]
      have hyb : cnt os ≤ os.length := by
        have := cnt_le os os.length
        rw [List.take_length] at this
        exact this
      k_steps
      refine ⟨?_⟩
      try refine settle (g0 := s.gens) (d0 := s.drawn) (o0 := s.os) rfl rfl rfl fun tk8 => ?_
      (with_reducible rename News _ _ _ _ => N5)
      (with_reducible rename Fr _ _ _ _ => F5)
      k_dflt (refine Calls.use (pressed_same (n := kl) (lb := dz) (List.mem_cons_of_mem _ (List.mem_cons_of_mem _ hdl)) (hys.mono fun p hp => List.mem_cons_of_mem _ (List.mem_cons_of_mem _ hp)) (fun d hd => kqd_up 7 d (left_ok hlaw d hd).1) (fun hd => (left_ok hlaw _ hd).2 rfl)) B F5 X N5 (fun _ h => h) T rfl ?r4 ?u4 ?hret4)
      case r4 => ktr_room
      case u4 => ktr_units
      case hret4 =>
        rintro r4 nw4 h4 tk4 F6 N6 ⟨tp, rfl, rfl, hne⟩
        clear N5 F5
        have hr4 : ∀ (x y : Addr × Obj), ∀ p ∈ rest, p ∈ x :: y :: (420, tabObj ps1) :: (56, tabObj ps2) :: rest := fun x y p hp => List.mem_cons_of_mem _ (List.mem_cons_of_mem _ (List.mem_cons_of_mem _ (List.mem_cons_of_mem _ hp)))
        k_steps
        refine ⟨?_⟩
        try refine settle (g0 := s.gens) (d0 := s.drawn) (o0 := s.os) rfl rfl rfl fun tk8 => ?_
        (with_reducible rename News _ _ _ _ => N7)
        (with_reducible rename Fr _ _ _ _ => F7)
        k_dflt (refine eq_same (d := .tuple [.list ((pressedD os).map Op.dat), .list (hs.map Dat.int)]) N7 (.tuple (List.mem_cons_of_mem _ List.mem_cons_self) (.cons (.list (hr4 _ _ _ hdl) (hys.mono (hr4 _ _))) (.cons (.list (hr4 _ _ _ hdz) (ints_dat hzs)) .nil))) (.tuple List.mem_cons_self (.cons (.list (hr4 _ _ _ hdl) (hys.mono (hr4 _ _))) (.cons (.list (hr4 _ _ _ hdz) (ints_dat hzs)) .nil))) (two_ok (fun d h => (left_ok hlaw d h).1) (int_ok hs 7)) (by ke_room) ?_)
        k_steps
        refine ⟨?_⟩
        try refine settle (g0 := s.gens) (d0 := s.drawn) (o0 := s.os) rfl rfl rfl fun tk8 => ?_
        (with_reducible rename News _ _ _ _ => N8)
        k_dflt (refine kqd_isIn N8 (hr4 _ _ _ hol) rfl rfl hD (hr4 _ _) DatIn.none (n₂ := []) (fun _ h => nomatch h) (fun d hd => kqd_up 7 d (ops_ok hlaw d hd)) rfl (by ke_room) ?_)
        rw [none_in]
        k_steps
        (with_reducible rename Fr _ _ _ _ => F9)
        rw [hyc, hM, beq_self_eq_true]
        exact hQ _ _ F9.keep (GrownAt.of (P := 420) N8 (List.mem_cons_of_mem _ (List.mem_cons_of_mem _ List.mem_cons_self))) (GrownAt.of (P := 56) N8 (List.mem_cons_of_mem _ (List.mem_cons_of_mem _ (List.mem_cons_of_mem _ List.mem_cons_self))))
end S_S3
section S_S1b
theorem adjust_last (n : Nat) : Builtin.Slice.sliceAdjust none (some (-1)) 1 ((n + 1 : Nat) : Int) = (0, (n : Int)) := by
  unfold Builtin.Slice.sliceAdjust
  have h1 : ¬ ((1 : Int) < 0) := by walk_at "om"
  have h2 : ((-1 : Int) < 0) := by walk_at "om"
  simp only [h1, h2, if_false, if_true]
  congr 1
  walk_at "om"
theorem places_last (n : Nat) : Builtin.Slice.slicePlaces 0 (n : Int) 1 = n := by
  unfold Builtin.Slice.slicePlaces
  have h1 : (1 : Int) > 0 := by walk_at "om"
  simp only [h1, if_true, Int.ediv_one]
  split <;> walk_at "om"
section
variable {prog : Program} {w : World} {A : Around} {E : Value → Shared → Prop} {s : Shared}
theorem sliceApplied_last {sl : Addr} {n : Nat} {u : Tok} {Q : Int × Int × Nat → Shared → Prop} (hs : s.heap.IsSliceOf sl .none (.int (-1) u) .none) (h : Q (0, 1, n) s) :
    wpAny (model prog w) A (Builtin.Slice.sliceApplied (.ref sl) (pure ((n + 1 : Nat) : Int))) Q E s := by
  obtain ⟨os, hos, hcs, hds⟩ := id hs
  unfold Builtin.Slice.sliceApplied Builtin.Slice.sliceFields
  refine wpAny_bind (wpAny_bind (wpAny_field hos hds (x := .none) rfl (wpAny_bind (wpAny_field hos hds (x := .int (-1) u) rfl (wpAny_bind (wpAny_field hos hds (x := .none) rfl (wpAny_pure ?_)))))))
  refine wpAny_bind (slicePart_none ?_)
  show wpAny _ _ (if ((1 : Int) == 0) = true then _ else _) _ _ s
  rw [if_neg (by decide)]
  refine wpAny_bind (slicePart_none (wpAny_bind (slicePart_int (wpAny_bind (wpAny_pure ?_)))))
  show wpAny _ _ (match Builtin.Slice.sliceAdjust none (some (-1)) 1 ((n + 1 : Nat) : Int) with | (lo, hi) => pure (lo, (1 : Int), Builtin.Slice.slicePlaces lo hi 1)) _ _ s
  rw [adjust_last n]
  show wpAny _ _ (pure ((0 : Int), (1 : Int), Builtin.Slice.slicePlaces 0 (n : Int) 1)) _ _ s
  rw [places_last n]
  exact wpAny_pure h
theorem pick_last (xs : Array Value) (n : Nat) : ((List.range n).filterMap fun (k : Nat) => xs[((0 : Int) + (k : Int) * 1).toNat]?).toArray = (xs.toList.take n).toArray := by
  have e : (fun (k : Nat) => xs[((0 : Int) + (k : Int) * 1).toNat]?) = fun k => xs[0 + k]? := by
    funext k
    have : ((0 : Int) + (k : Int) * 1).toNat = 0 + k := by walk_at "om"
    rw [this]
  rw [e]
  have := pick_run xs 0 n
  rw [List.filterMap_map] at this
  have e2 : ((fun x => xs[x]?) ∘ fun x => 0 + x) = fun k => xs[0 + k]? := rfl
  rw [e2] at this
  rw [this, List.drop_zero]
theorem getItem_tuple_last {t sl : Addr} {items : Array Value} {n : Nat} {u : Tok} {Q : Value → Shared → Prop} (ht : IsTup s.heap t items) (hs : s.heap.IsSliceOf sl .none (.int (-1) u) .none) (hn : items.size = n + 1)
    (h : Q (.ref s.heap.objs.size) { s with heap := s.heap.push { cls := .type "tuple", data := .seq (items.toList.take n).toArray } })
    (hsz : items.size ≤ sizeLine := by size_fits) : wpAny (model prog w) A (getItem (.ref t) (.ref sl)) Q E s := by
  have hdrop : sizeOk (.seq (items.toList.take n).toArray) := by
    show (items.toList.take n).toArray.size ≤ sizeLine
    rw [List.size_toArray, List.length_take, Array.length_toList]
    walk_at "om"
  obtain ⟨os, hos, hcs, hds⟩ := id hs
  have hTs : s.TypeIs (.ref sl) "slice" := ⟨os, hos, hcs⟩
  unfold getItem
  try with_reducible refine wpAny_holding ?_
  first | refine wpAny_bind (wpAny_pure ?_) | skip
  refine wpAny_bind (wpAny_sequenceKey ht.typeIs (by decide) ?_)
  refine wpAny_bind (wpAny_callSpecial?_slot (name := Str.ofString "__getitem__") ht.typeIs slot_tuple_getitem
    (wpAny_call_entry slot_tuple_getitem ht.typeIs entry_tuple_getitem ?_ (args_tuple_getitem _ _)))
  show wpAny _ _ (Builtin.Tuple.tupleItemsOf (.ref t) >>= _) _ _ s
  refine wpAny_bind (tupleItemsOf_ ht ?_)
  refine wpAny_bind (wpAny_typeOf hTs ?_)
  rw [if_pos (by decide)]
  refine wpAny_bind ?_
  rw [hn]
  refine sliceApplied_last hs ?_
  have hno : ¬ (((0 : Int) == 0 && (1 : Int) == 1 && n == n + 1) = true) := by
    have : (n == n + 1) = false := by rw [beq_eq_false_iff_ne]; walk_at "om"
    rw [this]; simp
  show wpAny _ _ (if ((0 : Int) == 0 && (1 : Int) == 1 && n == n + 1) = true then _ else _) _ _ s
  rw [if_neg hno, pick_last items n]
  first
    | exact wpAny_bind (m := Builtin.Tuple.tupleExact _) (wpAny_newObj_type (wpAny_pure ⟨_, rfl, wpAny_pure h⟩) hdrop)
    | exact wpAny_bind (m := Builtin.Tuple.tupleExact _) (wpAny_newObj_type (wpAny_bind (wpAny_pure (wpAny_pure ⟨_, rfl, wpAny_pure h⟩))) hdrop)
    | exact wpAny_bind (wpAny_bind (m := Builtin.Tuple.tupleExact _) (wpAny_newObj_type (wpAny_pure (wpAny_pure ⟨_, rfl, wpAny_pure h⟩)) hdrop))
    | exact wpAny_bind (wpAny_bind (m := Builtin.Tuple.tupleExact _) (wpAny_newObj_type (wpAny_pure ⟨_, rfl, wpAny_pure h⟩) hdrop))
end
theorem slice_tup_last {prog : Program} {w : World} {A : Around} {E : Value → Shared → Prop} {s : Shared} {h₀ : Heap} {L : Addr} {m : Str → Option Value} {news : List (Addr × Obj)} {value slice : Expr} {t : Addr} {items : Array Value} {n : Nat} {u : Tok} {zs : List Value} {Q : Value → Shared → Prop}
    (F : Fr h₀ L s.heap m) (N : News h₀ L s.heap news) (ht : IsTup s.heap t items) (hn : items.size = n + 1) (hz : items.toList.take n = zs)
    (h : ∀ D h', Fr h₀ L h' m → News h₀ L h' ((D, { cls := .type "tuple", data := .seq zs.toArray }) :: news) → (∀ p ∈ news, p.1 < D) → Q (.ref D) { s with heap := h' })
    (hs : subscripted slice false (.ref t) (.ref s.heap.objs.size) = operate [.ref s.heap.objs.size, .ref t] (getItem (.ref t) (.ref s.heap.objs.size)) := by with_unfolding_all rfl)
    (hg : ∀ r, letTemporaryGo value (.ref t) r = pure () := by intro _; with_unfolding_all rfl)
    (hsz : items.size ≤ sizeLine := by size_fits) :
    wpAny (model prog w) A (subscriptTail value slice (.ref t) (.ref s.heap.objs.size)) Q E { s with heap := s.heap.push { cls := .type "slice", data := .fields #[.none, .int (-1) u, .none] } } := by
  subst hz
  have ht' : IsTup (s.heap.push { cls := .type "slice", data := .fields #[.none, .int (-1) u, .none] }) t items := ht.keeps fun _ _ e => Heap.get?_push_of_some _ e
  refine subscriptTail_ops (s := { s with heap := s.heap.push { cls := .type "slice", data := .fields #[.none, .int (-1) u, .none] } }) ht'.typeIs slot_tuple_getitem.lookup
    (getItem_tuple_last ht' (Heap.IsSliceOf.new ..) hn ?_ hsz) hs hg
  have N1 := News.push (F.push { cls := .type "slice", data := .fields #[.none, .int (-1) u, .none] }) (N.grown fun _ _ e => Heap.get?_push_of_some _ e) { cls := .type "tuple", data := .seq (items.toList.take n).toArray }
  rw [Heap.size_push] at N1
  show Q (.ref (s.heap.push _).objs.size) _
  rw [Heap.size_push]
  exact h _ _ ((F.push _).push _) N1 (fun p hp => Nat.lt_succ_of_lt (Heap.lt_size (N p hp).1))
end S_S1b
section S_S2
local macro_rules | `(tactic| passes_own) => `(tactic| assumption)
local macro_rules | `(tactic| walk_at "call ref") => `(tactic| ((with_reducible show wpAny _ _ (call (Value.ref 418) _) _ _ _); refine Halt.out ?_))
local macro_rules | `(tactic| walk_at "compareOp NotEq ref ref") => `(tactic| refine Halt.out ?_)
local macro_rules | `(tactic| walk_at "execs cons") => `(tactic| ((with_reducible show wpAny _ _ (execs (PySem.Stmt.If (PySem.Expr.UnaryOp _ _ _) _ _ _ :: _) _) _ _ _); refine Halt.out ?_))
local macro_rules | `(tactic| walk_at "subscriptTail Name Slice ref ref") => `(tactic| (k_here; (with_reducible show wpAny _ _ (subscriptTail _ (PySem.Expr.Slice none _ none _) (Value.ref _) (Value.ref _)) _ _ _); k_dflt (refine' slice_tup_last ?F ?N ?t ?n ?z ?_ ?s ?g ?sz; (case F => k_asm); (case N => k_asm); (case t => exact News.isTup (by k_asm) (by k_mem)); (case n => exact rfl); (case z => kun_lit); (case s => with_unfolding_all rfl); (case g => kmk_pure); (case sz => exact Nat.le_of_ble_eq_true rfl)); intro D' h' F' N' l1; (try k_lt l1)))
structure DS where
  ds : List Value
  nd : Nat
  tl : List (Addr × Obj)
noncomputable abbrev dueDat (os : List Op) (i : Nat) : List Dat := (keptOps (os.take i)).map fun o => (o.re (ahd (ahdAll os))).dat
theorem due_turn {g h' : Heap} {L du : Addr} {ps : Array Value} {os : List Op} {i : Nat} {o : Op} {c : DS} {rst add : List (Addr × Obj)} {Q : Flow → Shared → Prop} {s₁ : Shared} {tk : Nat} {m₀ m' : Str → Option Value} {b : Value}
    (F : Fr g L h' m') (N : News g L h' (add ++ (du, listOf (c.ds.toArray.push b) (c.nd + 1)) :: (420, tabObj #[]) :: (56, tabObj ps) :: rst)) (ha : Abv du du rst add)
    (hm : ∀ y, y ≠ Str.ofString "op" → m' y = m₀ y) (ho : os[i]? = some o) (hne : o ≠ .non) (hs : DatAll c.tl c.ds (dueDat os i)) (db : DatIn (add ++ c.tl) b (o.re (ahd (ahdAll os))).dat) :
    TPost g L (Str.ofString "op") (fun _ y => m₀ y) (fun c => [(du, listOf c.ds.toArray c.nd), (420, tabObj #[]), (56, tabObj ps)]) (fun c => c.tl)
      (fun c => DatAll c.tl c.ds (dueDat os (i + 1))) c rst Q s₁ .next { s₁ with heap := h', toks := tk } := by
  rw [List.push_toArray] at N
  have up : ∀ p ∈ c.tl, p ∈ add ++ c.tl := fun p hp => List.mem_append.mpr (.inr hp)
  refine TPost.fin ⟨c.ds ++ [b], c.nd + 1, add ++ c.tl⟩ add F N ?_ rfl ?_ hm ?_
  · intro p hp
    simp only [List.cons_append, List.nil_append, List.mem_cons, List.mem_append] at hp ⊢
    rcases hp with h | h | h | h | h <;> simp [h]
  · intro p hp q hq
    refine Abv.fresh (o1 := tabObj ps) (o2 := listOf c.ds.toArray c.nd) (o3 := tabObj #[]) (o4 := tabObj ps) ha p hp q (List.mem_cons_of_mem _ hq)
  · show DatAll (add ++ c.tl) (c.ds ++ [b]) _
    unfold dueDat
    rw [kept_op ho hne, List.map_append]
    exact (hs.mono up).append (.one db)
theorem seg2 {w : World} {mean : ExcName → Option Value} {mg mb : Str → Option Value} {dp un : Nat} {gd : Option (List Code)} {cn : Str} {a : Addr} {ccd : Value} {A₀ : Around} {base g : Heap} {L : Addr} {m : Str → Option Value} {s : Shared} {Q : Flow → Shared → Prop} {E : Value → Shared → Prop}
    {sa ol dl dz bl ha ol2 bl2 : Addr} {svs ovs ys zs bvs : List Value} {sns bns : List Int} {no kl kz nb no2 nb2 : Nat} {os : List Op} {oc om : Obj} {M : Int} {tm : Tok} {ps : Array Value} {rest : List (Addr × Obj)}
    (B : Below A₀ base [] g) (F : Fr g L s.heap m) (X : (hd.heap_39 w.params).In g) (N : News g L s.heap ((420, tabObj #[]) :: (56, tabObj ps) :: rest)) (T : Top topProg LL mean mg mb g) (XB : (hd.heap_39 w.params).In base) (TB : Top topProg LL mean mg mb base) (hE : PassesOwn (model PySem.Challenge.rw_pb0246_01.row.prog w) (ktrTop dp un gd cn lawScope L a ccd (cellsFrom (L + 1) lawScope.names []) []) (envX cn lawScope L a ccd (cellsFrom (L + 1) lawScope.names [])) E) (hdp : dp + 300 < recursionLimit) (hun : un + 4000 < cLine)
    (hS : g.IsList sa svs.toArray) (hI : IntsAre svs sns ∧ sns.length ≤ 63) (m1 : m (Str.ofString "script") = some (.ref sa)) (m2 : m (Str.ofString "left") = some (.ref dl)) (m3 : m (Str.ofString "heads") = some (.ref dz)) (m4 : m (Str.ofString "begins") = some (.ref bl)) (m5 : m (Str.ofString "handed") = some (.ref ha))
    (c3 : (L + 1 + 1 + 1, oc) ∈ rest) (c3d : oc.data = .cell (some (.ref ol))) (c2 : (L + 1 + 1, om) ∈ rest) (c2d : om.data = .cell (some (.int M tm))) (hM : M = os.length)
    (hol : (ol, listOf ovs.toArray no) ∈ rest) (hD : DatAll rest ovs (os.map Op.dat)) (hlen : os.length ≤ 50) (hlaw : ∀ o ∈ os, lawOp os.length o)
    (hdl : (dl, listOf ys.toArray kl) ∈ rest) (hys : DatAll rest ys ((pressedD os).map Op.dat)) (hdz : (dz, listOf zs.toArray kz) ∈ rest) (hzs : IntsAre zs (pressedB os bns) ∧ True) (h420 : ∀ p ∈ rest, p.1 ≠ 420 ∧ p.1 ≠ 56) (hT : TabSt lamQ ps rest)
    (hbl : (bl, listOf bvs.toArray nb) ∈ rest) (hB : IntsAre bvs bns ∧ bns.length ≤ 60) (hbb : ∀ b ∈ bns, 0 ≤ b ∧ b ≤ (os.length : Int))
    (hha : (ha, tupO #[.ref ol2, .ref bl2]) ∈ rest) (hol2 : (ol2, listOf ovs.toArray no2) ∈ rest) (hbl2 : (bl2, listOf bvs.toArray nb2) ∈ rest)
    (hQ : ∀ h' tk', (∀ b o, g.get? b = some o → h'.get? b = some o) → GrownAt 420 h' → GrownAt 56 h' → Q (.ret (.bool true)) { s with heap := h', toks := tk' }) :
    wpAny (model PySem.Challenge.rw_pb0246_01.row.prog w) (ktrTop dp un gd cn lawScope L a ccd (cellsFrom (L + 1) lawScope.names []) []) (execs (lawRest 7) (envX cn lawScope L a ccd (cellsFrom (L + 1) lawScope.names []))) Q E s := by
  have hvl : ovs.length = os.length := by rw [hD.length, List.length_map]
  conv in (lawRest 7) => whnf
  k_steps
  refine ⟨?_⟩
  try refine settle (g0 := s.gens) (d0 := s.drawn) (o0 := s.os) rfl rfl rfl fun tk8 => ?_
  (with_reducible rename News _ _ _ _ => N1)
  (with_reducible rename Fr _ _ _ _ => F1)
  have hr3 : ∀ (x : Addr × Obj), ∀ p ∈ rest, p ∈ x :: (420, tabObj #[]) :: (56, tabObj ps) :: rest := fun x p hp => List.mem_cons_of_mem _ (List.mem_cons_of_mem _ (List.mem_cons_of_mem _ hp))
  k_dflt (refine ne_same (d := .tuple [.list (os.map Op.dat), .list (bns.map Dat.int)]) N1 (.tuple List.mem_cons_self (.cons (.list (hr3 _ _ hol) (hD.mono (hr3 _))) (.cons (.list (hr3 _ _ hbl) (ints_dat hB.1)) .nil))) (.tuple (hr3 _ _ hha) (.cons (.list (hr3 _ _ hol2) (hD.mono (hr3 _))) (.cons (.list (hr3 _ _ hbl2) (ints_dat hB.1)) .nil))) (two_ok (ops_ok hlaw) (int_ok bns 7)) (by ke_room) ?_)
  k_steps
  rename_i du hh1 lu hh2 FZ NZ
  refine ⟨?_⟩
  try refine settle (g0 := s.gens) (d0 := s.drawn) (o0 := s.os) rfl rfl rfl fun tk8 => ?_
  refine for_led (σ := DS) (l := ol) (vs := ovs) (nn := no) (fun m _ y => m y) (fun c => [(du, listOf c.ds.toArray c.nd), (420, tabObj #[]), (56, tabObj ps)]) (fun c => c.tl) [du, 420, 56]
    (fun i c => DatAll c.tl c.ds (dueDat os i)) ⟨[], 0, rest⟩ rfl FZ NZ hol ?hsub (fun _ => rfl) ?hoff (fun _ _ => rfl) .nil ?turn ?done
  case hsub =>
    intro p hp
    simp only [List.cons_append, List.nil_append, List.mem_cons] at hp ⊢
    rcases hp with h | h | h | h <;> simp [h]
  case hoff =>
    intro p hp a ha
    simp only [List.mem_cons, List.not_mem_nil, or_false] at ha
    rcases ha with rfl | rfl | rfl
    · exact allLt_ne (l := rest) lu.2.2.2 p hp
    · exact (h420 p hp).1
    · exact (h420 p hp).2
  case turn =>
    intro i v c rst h tk hv hs hr1 hr2 hr4 F' N' W8 hW8
    have hrr : ∀ p ∈ rest, p ∈ rst := fun p hp => hr1 _ (hr2 _ hp)
    have hoff1 : ∀ p ∈ rst, p.1 ≠ du := fun p hp => hr4 p hp du List.mem_cons_self
    have c3r := hrr _ c3
    have holr := hrr _ hol
    obtain ⟨o, ho, hvo⟩ := ds_at hD hv
    have hlo := hlaw o (List.mem_of_getElem? ho)
    have hil := (List.getElem?_eq_some_iff.mp ho).1
    have hz1 : c.ds.length ≤ 1000 := by
      rw [hs.length, List.length_map]
      have h1 := cnt_le os i
      rw [cnt_eq] at h1
      walk_at "om"
    clear FZ NZ hr3
    dsimp only [List.cons_append, List.nil_append] at N'
    cases o with
    | non =>
      -- <<non
      cases hvo
      k_steps
      (with_reducible rename News _ _ _ _ => N9)
      (with_reducible rename Fr _ _ _ _ => F9)
      refine hW8 _ _ ?_
      refine TPost.cont c [] F9 N9 ?subN rfl (fun _ h => nomatch h) ?gmN ?stN
      case subN =>
        intro p hp
        simp only [List.cons_append, List.nil_append, List.mem_cons] at hp ⊢
        exact hp
      case gmN =>
        intro y hy
        exact if_neg hy
      case stN =>
        show DatAll c.tl c.ds (dueDat os (i + 1))
        unfold dueDat
        rw [kept_non ho]
        exact hs
      -- non>>
    | jump l =>
      -- <<jump
      cases hvo with
      | tuple hm hall =>
      cases hall with
      | cons e0 hall =>
      cases hall with
      | cons e1 hall =>
      cases hall
      cases e0
      cases e1
      replace hm := hrr _ hm
      k_steps
      refine ⟨?_⟩
      try refine settle (g0 := s.gens) (d0 := s.drawn) (o0 := s.os) rfl rfl rfl fun tk8 => ?_
      (with_reducible rename News _ _ _ _ => N7)
      (with_reducible rename Fr _ _ _ _ => F7)
      k_dflt (refine Calls.use (place_spec (n := no) (os := os) (vs := ovs) (by k_mem) (hD.mono fun p hp => (fun (hq : p ∈ rst) => by k_mem) (hrr p hp)) (by walk_at "om") hlo.1 hlo.2) B F7 X N7 (fun _ h => h) T rfl ?prJ ?puJ ?pqJ)
      case prJ => ktr_room
      case puJ => ktr_units
      rintro r7 nw7 h7 tk7 F8 N8 ⟨⟨t7, rfl⟩, rfl⟩
      clear F7 N7
      k_steps
      (with_reducible rename News _ _ _ _ => N9)
      (with_reducible rename Fr _ _ _ _ => F9)
      refine hW8 _ _ ?_
      refine due_turn (add := [_, _, _]) F9 N9 ⟨⟨by walk_at "om", by walk_at "om", by walk_at "om", by walk_at "om", by walk_at "M.lt"⟩, ⟨by walk_at "om", by walk_at "om", by walk_at "om", by walk_at "om", by walk_at "M.lt"⟩, ⟨by walk_at "om", by walk_at "om", by walk_at "om", by walk_at "om", by walk_at "M.lt"⟩, trivial⟩ ?gmJ ho (by simp) hs (.tuple List.mem_cons_self (.cons (.str _ _) (.cons (.int _ _) .nil)))
      case gmJ =>
        intro y hy
        simp only [if_neg hy]
      -- jump>>
    | put d l =>
      -- <<put
      cases hvo with
      | tuple hm hall =>
      cases hall with
      | cons e0 hall =>
      cases hall with
      | cons e1 hall =>
      cases hall with
      | cons e2 hall =>
      cases hall
      cases e0
      cases e2
      replace hm := hrr _ hm
      k_steps
      refine ⟨?_⟩
      try refine settle (g0 := s.gens) (d0 := s.drawn) (o0 := s.os) rfl rfl rfl fun tk8 => ?_
      (with_reducible rename News _ _ _ _ => N7)
      (with_reducible rename Fr _ _ _ _ => F7)
      k_dflt (refine Calls.use (place_spec (n := no) (os := os) (vs := ovs) (by k_mem) (hD.mono fun p hp => (fun (hq : p ∈ rst) => by k_mem) (hrr p hp)) (by walk_at "om") hlo.2.1 hlo.2.2) B F7 X N7 (fun _ h => h) T rfl ?prP ?puP ?pqP)
      case prP => ktr_room
      case puP => ktr_units
      rintro r7 nw7 h7 tk7 F8 N8 ⟨⟨t7, rfl⟩, rfl⟩
      clear F7 N7
      k_steps
      (with_reducible rename News _ _ _ _ => N9)
      (with_reducible rename Fr _ _ _ _ => F9)
      refine hW8 _ _ ?_
      refine due_turn (add := [_, _, _]) F9 N9 ⟨⟨by walk_at "om", by walk_at "om", by walk_at "om", by walk_at "om", by walk_at "M.lt"⟩, ⟨by walk_at "om", by walk_at "om", by walk_at "om", by walk_at "om", by walk_at "M.lt"⟩, ⟨by walk_at "om", by walk_at "om", by walk_at "om", by walk_at "om", by walk_at "M.lt"⟩, trivial⟩ ?gmP ho (by simp) hs (.tuple List.mem_cons_self (.cons (.str _ _) (.cons (e1.mono fun p hp => List.mem_append.mpr (.inr (hr2 _ hp))) (.cons (.int _ _) .nil))))
      case gmP =>
        intro y hy
        simp only [if_neg hy]
      -- put>>
    | choose x y =>
      -- <<choose
      cases hvo with
      | tuple hm hall =>
      cases hall with
      | cons e0 hall =>
      cases hall with
      | cons e1 hall =>
      cases hall
      cases e0
      cases e1 with
      | tuple hm2 hall =>
      cases hall with
      | cons e3 hall =>
      cases hall with
      | cons e4 hall =>
      cases hall
      cases e3
      cases e4
      replace hm := hrr _ hm
      replace hm2 := hrr _ hm2
      k_steps
      refine ⟨?_⟩
      try refine settle (g0 := s.gens) (d0 := s.drawn) (o0 := s.os) rfl rfl rfl fun tk8 => ?_
      k_dflt (refine' comp_tup ?F ?N ?hm ?c1 ?c2 ?c3 ?c4 ?c5 ?c6 ?sz ?_; (case F => k_asm); (case N => k_asm); (case hm => (show _ ∈ (du, _) :: (420, _) :: (56, _) :: rst); exact List.mem_cons_of_mem _ (List.mem_cons_of_mem _ (List.mem_cons_of_mem _ hm2))); (case c1 => with_unfolding_all rfl); (case c2 => decide); (case c3 => rfl); (case c4 => decide); (case c5 => rfl); (case c6 => rfl); (case sz => exact Nat.le_of_ble_eq_true rfl))
      k_steps
      refine ⟨⟨by first | exact rfl | fail "A", by assumption, by assumption, by first | k_mem | fail "B", fun g => ?_⟩⟩
      refine CompRest.succ ?_
      intro v I oI C oC D m2 h2 tk2 E2 hP hns hx hF hN off ne
      obtain rfl : _ = v := Option.some.inj hP
      k_steps
      refine ⟨?_⟩
      try refine settle (g0 := s.gens) (d0 := s.drawn) (o0 := s.os) rfl rfl rfl fun tk8 => ?_
      (with_reducible rename News _ _ _ _ => N7)
      (with_reducible rename Fr _ _ _ _ => F7)
      k_dflt (refine Calls.use (place_spec (n := no) (os := os) (vs := ovs) (pl := x) (by k_mem) (hD.mono fun p hp => (fun (hq : p ∈ rst) => by k_mem) (hrr p hp)) (by walk_at "om") hlo.1 hlo.2.1) B F7 X N7 (fun _ h => h) T rfl ?prA ?puA ?pqA)
      case prA => ktr_room
      case puA => ktr_units
      rintro r7 nw7 h7 tk7 F8 N8 ⟨⟨tA, rfl⟩, rfl⟩
      clear F7 N7
      k_steps
      refine CompEnd.intro (by assumption) (by assumption) _ (fun _ h => h) off ((show _ ∈ (du, _) :: (420, _) :: (56, _) :: rst from List.mem_cons_of_mem _ (List.mem_cons_of_mem _ (List.mem_cons_of_mem _ hm2)))) ?_
      clear off ne hx hns hP F8 N8
      refine CompRest.succ ?_
      intro v I oI C oC D m2 h2 tk2 E2 hP hns hx hF hN off ne
      obtain rfl : _ = v := Option.some.inj hP
      k_steps
      refine ⟨?_⟩
      try refine settle (g0 := s.gens) (d0 := s.drawn) (o0 := s.os) rfl rfl rfl fun tk8 => ?_
      (with_reducible rename News _ _ _ _ => N7)
      (with_reducible rename Fr _ _ _ _ => F7)
      k_dflt (refine Calls.use (place_spec (n := no) (os := os) (vs := ovs) (pl := y) (by k_mem) (hD.mono fun p hp => (fun (hq : p ∈ rst) => by k_mem) (hrr p hp)) (by walk_at "om") hlo.2.2.1 hlo.2.2.2) B F7 X N7 (fun _ h => h) T rfl ?prB ?puB ?pqB)
      case prB => ktr_room
      case puB => ktr_units
      rintro r7 nw7 h7 tk7 F8 N8 ⟨⟨tB, rfl⟩, rfl⟩
      clear F7 N7
      k_steps
      refine CompEnd.intro (by assumption) (by assumption) _ (fun _ h => h) off ((show _ ∈ (du, _) :: (420, _) :: (56, _) :: rst from List.mem_cons_of_mem _ (List.mem_cons_of_mem _ (List.mem_cons_of_mem _ hm2)))) ?_
      clear off ne hx hns hP F8 N8
      refine CompRest.zero ?_
      intro D3 h3 tk3 F3' N3' off3'
      have hdd : @Ne Nat du D3 := off1_mem off3' (du, listOf c.ds.toArray c.nd) List.mem_cons_self
      k_steps
      (with_reducible rename News _ _ _ _ => N9)
      (with_reducible rename Fr _ _ _ _ => F9)
      refine hW8 _ _ ?_
      refine due_turn (add := [_, _]) F9 (news_sub N9 (sub_top (sub_top (sub_skip sub_refl)))) ⟨⟨by walk_at "om", by walk_at "om", by walk_at "om", by walk_at "om", by walk_at "M.lt"⟩, ⟨by walk_at "om", by walk_at "om", by walk_at "om", by walk_at "om", by walk_at "M.lt"⟩, trivial⟩ ?gmC ho (by simp) hs (.tuple List.mem_cons_self (.cons (.str _ _) (.cons (.tuple (List.mem_cons_of_mem _ List.mem_cons_self) (.cons (.int _ _) (.cons (.int _ _) .nil))) .nil)))
      case gmC =>
        intro y hy
        simp only [if_neg hy]
      -- choose>>
    | push d =>
      -- <<push
      have hvo' := hvo
      cases hvo with
      | tuple hm hall =>
      cases hall with
      | cons e0 hall =>
      cases hall with
      | cons e1 hall =>
      cases hall with
      | cons e2 hall =>
      cases hall
      cases e0
      replace hm := hrr _ hm
      k_steps
      (with_reducible rename News _ _ _ _ => N9)
      (with_reducible rename Fr _ _ _ _ => F9)
      refine hW8 _ _ ?_
      refine due_turn (add := []) F9 N9 trivial ?gmU ho (by simp) hs (hvo'.mono hr2)
      case gmU =>
        intro y hy
        simp only [if_neg hy]
      -- push>>
    | _ => exact hlo.elim
  case done =>
    -- <<done
    intro c u h tk hs hsub hr4 F' N'
    rw [hvl] at hs
    unfold dueDat at hs
    rw [List.take_length, ← left_dats hlaw] at hs
    have hup : ∀ p ∈ rest, p ∈ (du, listOf c.ds.toArray c.nd) :: (420, tabObj #[]) :: (56, tabObj ps) :: c.tl := fun p hp => List.mem_cons_of_mem _ (List.mem_cons_of_mem _ (List.mem_cons_of_mem _ (hsub _ hp)))
    have hup2 : ∀ p ∈ c.tl, p ∈ (du, listOf c.ds.toArray c.nd) :: (420, tabObj #[]) :: (56, tabObj ps) :: c.tl := fun p hp => List.mem_cons_of_mem _ (List.mem_cons_of_mem _ (List.mem_cons_of_mem _ hp))
    have c3c := hsub _ c3
    have hblc := hsub _ hbl
    have holc := hsub _ hol
    clear FZ NZ hr3
    dsimp only [List.cons_append, List.nil_append] at N'
    k_steps
    refine ⟨?_⟩
    try refine settle (g0 := s.gens) (d0 := s.drawn) (o0 := s.os) rfl rfl rfl fun tk8 => ?_
    (with_reducible rename News _ _ _ _ => N7)
    (with_reducible rename Fr _ _ _ _ => F7)
    k_dflt (refine ne_same (d := .list ((pressedD os).map Op.dat)) N7 (.list (hup _ hdl) (hys.mono hup)) (.list List.mem_cons_self (hs.mono hup2)) ?hk7 (by ke_room) ?_)
    case hk7 =>
      simp only [kqdOk, List.all_eq_true]
      exact fun d hd => kqd_up 7 d (left_ok hlaw d hd).1
    k_steps
    refine ⟨?_⟩
    try refine settle (g0 := s.gens) (d0 := s.drawn) (o0 := s.os) rfl rfl rfl fun tk8 => ?_
    k_dflt (refine LCg.ListComp_U (F₀ := by k_asm) (by with_unfolding_all rfl) (by decide) (by rfl) (by decide) (by rfl) ?_)
    walk1
    have hb1 : bvs.toArray.size ≤ sizeLine := by rw [List.size_toArray, hB.1.length]; exact Nat.le_trans hB.2 (Nat.le_of_ble_eq_true rfl)
    (with_reducible rename News _ _ _ _ => N7)
    (with_reducible rename Fr _ _ _ _ => F7)
    refine CompSrc.ledger rfl F7 N7 (hup2 _ hblc) hb1 ?_
    intro g7
    refine rest_inv bvs.length (fun i zs nw => nw = (du, listOf c.ds.toArray c.nd) :: (420, tabObj #[]) :: (56, tabObj ps) :: c.tl ∧ IntsAre zs ((bns.take i).map (ahd (ahdAll os)))) ?bturn ?bfin _ 0 [] _ (by simp) ⟨rfl, .nil⟩
    case bturn =>
      rintro i zs2 nw hi ⟨rfl, hzs2⟩ v I oI C oC D2 m₂ h8 tk8 E8 hP hns hx F8 N8 off8 ne8
      have hv : bvs[i]? = some v := by simpa using hP
      obtain ⟨b, t, rfl, hb⟩ := ints_at hB.1 hv
      have hbl1 := hbb b (List.mem_of_getElem? hb)
      clear F7 N7
      k_steps
      refine ⟨?_⟩
      try refine settle (g0 := s.gens) (d0 := s.drawn) (o0 := s.os) rfl rfl rfl fun tk8 => ?_
      (with_reducible rename News _ _ _ _ => N9)
      (with_reducible rename Fr _ _ _ _ => F9)
      k_dflt (refine Calls.use (place_spec (n := no) (os := os) (vs := ovs) (pl := b) (by k_mem) (hD.mono fun p hp => (fun (hq : p ∈ c.tl) => by k_mem) (hsub p hp)) (by walk_at "om") hbl1.1 hbl1.2) B F9 X N9 (fun _ h => h) T rfl ?pr5 ?pu5 ?pq5)
      case pr5 => ktr_room
      case pu5 => ktr_units
      rintro r7 nw7 h7 tk7 F10 N10 ⟨⟨t7, rfl⟩, rfl⟩
      clear F9 N9
      k_steps
      refine CompEnd.intro (by assumption) (by assumption) _ (fun _ h => h) off8 (.inr ⟨_, hup2 _ hblc, rfl, _, rfl⟩) ⟨rfl, ?_⟩
      rw [List.take_add_one, hb, Option.toList_some, List.map_append]
      exact ints_snoc hzs2
    case bfin =>
      rintro zs2 nw ⟨rfl, hzs2⟩ D2 h8 tk8 F8 N8 off8
      rw [hB.1.length, List.take_length] at hzs2
      clear F7 N7
      k_steps
      refine ⟨?_⟩
      try refine settle (g0 := s.gens) (d0 := s.drawn) (o0 := s.os) rfl rfl rfl fun tk8 => ?_
      (with_reducible rename News _ _ _ _ => N9)
      (with_reducible rename Fr _ _ _ _ => F9)
      rw [pressedB_eq hbb] at hzs
      k_dflt (refine ne_same (d := .list ((bns.map (ahd (ahdAll os))).map Dat.int)) N9 (.list (List.mem_cons_of_mem _ (hup _ hdz)) (ints_dat hzs.1)) (.list List.mem_cons_self (ints_dat hzs2)) (by simp [kqdOk]) (by ke_room) ?_)
      k_steps
      refine ⟨?_⟩
      try refine settle (g0 := s.gens) (d0 := s.drawn) (o0 := s.os) rfl rfl rfl fun tk8 => ?_
      (with_reducible rename Fr _ _ _ _ => F11)
      refine seg3 (os := os) (hs := bns.map (ahd (ahdAll os))) B F11 X (news_sub N9 (sub_skip (sub_skip sub_refl))) T XB TB (by walk_at "om") (by walk_at "om") hS hI.1 hI.2 m1 m2 m3 (hsub _ c3) c3d (hsub _ c2) c2d hM (hsub _ hol) (hD.mono hsub) hlen hlaw (hsub _ hdl) (hys.mono hsub) (hsub _ hdz) hzs.1 (fun p hp => ⟨hr4 p hp 420 (by simp), hr4 p hp 56 (by simp)⟩) (hT.mono hsub) ?hQ3
      case hQ3 => exact fun h' tk' k1 k2 k3 => hQ h' tk' k1 k2 k3
    -- done>>
end S_S2
section S_S4a
theorem draw_call_s {w : World} {mean : ExcName → Option Value} {mg mb : Str → Option Value} {dp un : Nat} {gd : Option (List Code)} {cn : Str} {cs : Scope} {a : Addr} {ccd : Value} {cl : List (Str × Addr)} {outer : List Env} {A₀ : Around} {base g : Heap} {L : Addr} {m : Str → Option Value} {s : Shared} {Q E : Value → Shared → Prop}
    {tp ca : Addr} {vs : List Value} {ns : List Int} {n1 n2 : Nat} {i limit : Int} {ti tlim : Tok} {R news : List (Addr × Obj)}
    (B : Below A₀ base outer g) (F : Fr g L s.heap m) (X : (hd.heap_39 w.params).In g) (N : News g L s.heap news) (hs : ∀ p ∈ (tp, listOf #[.ref ca, .int i ti] n1) :: (ca, listOf vs.toArray n2) :: R, p ∈ news) (T : Top topProg LL mean mg mb g) (hk : cs.kind = .function) (hdp : dp + 10 < recursionLimit) (hun : un + 100 < cLine)
    (hi : IntsAre vs ns ∧ 0 < ns.length ∧ ns.length ≤ 60) (hi0 : 0 ≤ i) (hi1 : i < 1000) (hl0 : 0 < limit) (hl1 : limit ≤ 11) (hne : @Ne Nat tp ca) (hr : ∀ p ∈ R, @Ne Nat p.1 tp ∧ @Ne Nat p.1 ca)
    (hret : ∀ x t ti' vs' ns' h' tk', 0 ≤ x → x < limit → (IntsAre vs' ns' ∧ 0 < ns'.length ∧ ns'.length ≤ 60) → Fr g L h' m → News g L h' ((tp, listOf #[.ref ca, .int (i + 1) ti'] n1) :: (ca, listOf vs'.toArray n2) :: R) → Q (.int x t) { s with heap := h', toks := tk' }) :
    wpAny (model PySem.Challenge.rw_pb0246_01.row.prog w) (ktrTop dp un gd cn cs L a ccd cl outer) (call (.ref 413) [.ref tp, .int limit tlim]) Q E s := by
  refine Calls.use (draw_spec (rest := R) hi.1 hi.2.1 hi.2.2 hi0 hi1 hl0 hl1 hne (fun p hp => (hr p hp).1) (fun p hp => (hr p hp).2)) B F X N hs T hk hdp hun ?_
  rintro r nw h' tk' F' N' ⟨x, t, ti', vs', ns', rfl, h0, h1, hi', hl', rfl⟩
  exact hret x t ti' vs' ns' h' tk' h0 h1 ⟨hi', by rw [hl']; exact hi.2.1, by rw [hl']; exact hi.2.2⟩ F' N'
theorem draw_call {w : World} {mean : ExcName → Option Value} {mg mb : Str → Option Value} {dp un : Nat} {gd : Option (List Code)} {cn : Str} {cs : Scope} {a : Addr} {ccd : Value} {cl : List (Str × Addr)} {outer : List Env} {A₀ : Around} {base g : Heap} {L : Addr} {m : Str → Option Value} {hp9 : Heap} {gn9 : Array GenState} {dr9 : Drawn} {tk9 : Nat} {os9 : OsState} {Q E : Value → Shared → Prop} {tp ca : Addr} {vs : List Value} {ns : List Int} {n1 n2 : Nat} {i limit : Int} {ti tlim : Tok} {R news : List (Addr × Obj)} (B : Below A₀ base outer g) (F : Fr g L hp9 m) (X : (hd.heap_39 w.params).In g) (N : News g L hp9 news) (hs : ∀ p ∈ (tp, listOf #[.ref ca, .int i ti] n1) :: (ca, listOf vs.toArray n2) :: R, p ∈ news) (T : Top topProg LL mean mg mb g) (hk : cs.kind = .function) (hdp : dp + 10 < recursionLimit) (hun : un + 100 < cLine) (hi : IntsAre vs ns ∧ 0 < ns.length ∧ ns.length ≤ 60) (hi0 : 0 ≤ i) (hi1 : i < 1000) (hl0 : 0 < limit) (hl1 : limit ≤ 11) (hne : @Ne Nat tp ca) (hr : ∀ p ∈ R, @Ne Nat p.1 tp ∧ @Ne Nat p.1 ca) (hret : ∀ x t ti' vs' ns' h' tk', 0 ≤ x → x < limit → (IntsAre vs' ns' ∧ 0 < ns'.length ∧ ns'.length ≤ 60) → Fr g L h' m → News g L h' ((tp, listOf #[.ref ca, .int (i + 1) ti'] n1) :: (ca, listOf vs'.toArray n2) :: R) → Q (.int x t) ⟨h', gn9, dr9, tk', os9⟩) :
    wpAny (model PySem.Challenge.rw_pb0246_01.row.prog w) (ktrTop dp un gd cn cs L a ccd cl outer) (call (.ref 413) [.ref tp, .int limit tlim]) Q E ⟨hp9, gn9, dr9, tk9, os9⟩ :=
  draw_call_s (s := ⟨hp9, gn9, dr9, tk9, os9⟩) B F X N hs T hk hdp hun hi hi0 hi1 hl0 hl1 hne hr hret
theorem pick_op {prog : Program} {w : World} {A : Around} {E : Value → Shared → Prop} {s : Shared} {h₀ : Heap} {L : Addr} {value slice : Expr} {D pu nn zz ch q p r j : Addr} {l pl x : Int} {k : Nat} {c1 c2 c3 c4 c5 c6 c7 c8 c9 : Nat} {t1 t2 t3 t4 t5 t6 t7 t8 t9 t10 t11 t12 t13 t14 u : Tok} {rst : List (Addr × Obj)} {Q : Value → Shared → Prop}
    (N : News h₀ L s.heap ((D, ({ cls := .type "tuple", data := .seq #[.none, .ref j, .ref p, .ref ch, .ref pu] c1 } : Obj)) :: (pu, ({ cls := .type "tuple", data := .seq #[.str (Str.ofString "push") t1, .ref nn, .int (-1) t2] c2 } : Obj)) :: (nn, ({ cls := .type "tuple", data := .seq #[.str (Str.ofString "number") t3, .ref zz] c3 } : Obj)) :: (zz, ({ cls := .type "tuple", data := .seq #[.int pl t4, .int 0 t5] c4 } : Obj)) ::
      (ch, ({ cls := .type "tuple", data := .seq #[.str (Str.ofString "choose") t6, .ref q] c5 } : Obj)) :: (q, ({ cls := .type "tuple", data := .seq #[.int l t7, .int ((2 + (k : Int)) - l) t8] c6 } : Obj)) :: (p, ({ cls := .type "tuple", data := .seq #[.str (Str.ofString "put") t9, .ref r, .int l t10] c7 } : Obj)) :: (r, ({ cls := .type "tuple", data := .seq #[.str (Str.ofString "row") t11, .int pl t12] c8 } : Obj)) ::
      (j, ({ cls := .type "tuple", data := .seq #[.str (Str.ofString "jump") t13, .int l t14] c9 } : Obj)) :: rst))
    (hx0 : 0 ≤ x) (hx1 : x < 5) (hl0 : 0 ≤ l) (hl1 : l < 2 + (k : Int) + 1)
    (h : ∀ v o, DatIn ([(D, ({ cls := .type "tuple", data := .seq #[.none, .ref j, .ref p, .ref ch, .ref pu] c1 } : Obj)), (pu, ({ cls := .type "tuple", data := .seq #[.str (Str.ofString "push") t1, .ref nn, .int (-1) t2] c2 } : Obj)), (nn, ({ cls := .type "tuple", data := .seq #[.str (Str.ofString "number") t3, .ref zz] c3 } : Obj)), (zz, ({ cls := .type "tuple", data := .seq #[.int pl t4, .int 0 t5] c4 } : Obj)),
      (ch, ({ cls := .type "tuple", data := .seq #[.str (Str.ofString "choose") t6, .ref q] c5 } : Obj)), (q, ({ cls := .type "tuple", data := .seq #[.int l t7, .int ((2 + (k : Int)) - l) t8] c6 } : Obj)), (p, ({ cls := .type "tuple", data := .seq #[.str (Str.ofString "put") t9, .ref r, .int l t10] c7 } : Obj)), (r, ({ cls := .type "tuple", data := .seq #[.str (Str.ofString "row") t11, .int pl t12] c8 } : Obj)),
      (j, ({ cls := .type "tuple", data := .seq #[.str (Str.ofString "jump") t13, .int l t14] c9 } : Obj))]) v o.dat → lawOp (2 + k) o → Q v s)
    (hs : ∀ n : Nat, subscripted slice false (.ref D) (.int (n : Int) u) = operate [.ref D, .int (n : Int) u] (getItem (.ref D) (.int (n : Int) u))) :
    wpAny (model prog w) A (subscriptTail value slice (.ref D) (.int x u)) Q E s := by
  obtain ⟨n, rfl⟩ : ∃ n : Nat, x = (n : Int) := ⟨x.toNat, by walk_at "om"⟩
  have ht := News.isTup N List.mem_cons_self
  have hn : n < 5 := by walk_at "om"
  have key : ∃ v, [Value.none, .ref j, .ref p, .ref ch, .ref pu][n]? = some v ∧ Q v s := by
    rcases (by walk_at "om" : n = 0 ∨ n = 1 ∨ n = 2 ∨ n = 3 ∨ n = 4) with rfl | rfl | rfl | rfl | rfl
    · exact ⟨_, rfl, h .none .non .none trivial⟩
    · exact ⟨_, rfl, h (.ref j) (.jump l) (.tuple (by k_mem) (.cons (.str _ _) (.cons (.int _ _) .nil))) ⟨hl0, by show l ≤ ((2 + k : Nat) : Int); walk_at "om"⟩⟩
    · exact ⟨_, rfl, h (.ref p) (.put (.tuple [sD "row", .int pl]) l) (.tuple (by k_mem) (.cons (.str _ _) (.cons (.tuple (by k_mem) (.cons (.str _ _) (.cons (.int _ _) .nil))) (.cons (.int _ _) .nil)))) ⟨by simp [kqdOk, so_row], hl0, by show l ≤ ((2 + k : Nat) : Int); walk_at "om"⟩⟩
    · exact ⟨_, rfl, h (.ref ch) (.choose l ((2 + (k : Int)) - l)) (.tuple (by k_mem) (.cons (.str _ _) (.cons (.tuple (by k_mem) (.cons (.int _ _) (.cons (.int _ _) .nil))) .nil))) ⟨hl0, by show l ≤ ((2 + k : Nat) : Int); walk_at "om", by show 0 ≤ (2 + (k : Int)) - l; walk_at "om", by show (2 + (k : Int)) - l ≤ ((2 + k : Nat) : Int); walk_at "om"⟩⟩
    · exact ⟨_, rfl, h (.ref pu) (.push (.tuple [sD "number", .tuple [.int pl, .int 0]])) (.tuple (by k_mem) (.cons (.str _ _) (.cons (.tuple (by k_mem) (.cons (.str _ _) (.cons (.tuple (by k_mem) (.cons (.int _ _) (.cons (.int _ _) .nil))) .nil))) (.cons (.int _ _) .nil)))) (show kqdOk 6 _ = true by simp [kqdOk, so_number])⟩
  obtain ⟨v, hv, hq⟩ := key
  exact item_tupV (vs := [Value.none, .ref j, .ref p, .ref ch, .ref pu]) ht hv (by walk_at "om") hq (hs n)
structure LS where
  ti : Tok
  cvs : List Value
  ovs : List Value
  no : Nat
  os : List Op
  tl : List (Addr × Obj)
  wy : Option Value
  lb : Option Value
  i : Nat
noncomputable def LSt (k i : Nat) (c : LS) : Prop := c.i = i ∧ c.os.length = i ∧ (∀ o ∈ c.os, lawOp (2 + k) o) ∧ DatAll c.tl c.ovs (c.os.map Op.dat) ∧ ∃ ns', IntsAre c.cvs ns' ∧ 0 < ns'.length ∧ ns'.length ≤ 60
noncomputable abbrev lmm (m : Str → Option Value) (c : LS) (y : Str) : Option Value := if y = Str.ofString "way" then c.wy else if y = Str.ofString "label" then c.lb else m y
noncomputable abbrev lhd (tp cel ol : Addr) (n : Nat) (c : LS) : List (Addr × Obj) := [(tp, listOf #[.ref cel, .int (1 + 2 * (c.i : Int)) c.ti] 0), (cel, listOf c.cvs.toArray n), (ol, listOf c.ovs.toArray c.no), (420, tabObj #[]), (56, tabObj #[])]
theorem ops_turn {g h' : Heap} {L tp cel ol wl : Addr} {n k i : Nat} {c : LS} {rst add : List (Addr × Obj)} {Q : Flow → Shared → Prop} {s₁ : Shared} {tk : Nat} {m₀ m' : Str → Option Value} {v : Value} {o : Op} {ti' : Tok} {cvs' : List Value} {ns' : List Int} {wy lb : Option Value} {oa ob oc : Obj}
    (F : Fr g L h' m') (N : News g L h' (add ++ (tp, listOf #[.ref cel, .int (1 + 2 * (c.i : Int) + 1 + 1) ti'] 0) :: (cel, listOf cvs'.toArray n) :: (ol, listOf (c.ovs.toArray.push v) (c.no + 1)) :: (420, tabObj #[]) :: (56, tabObj #[]) :: rst))
    (hw : AllLt wl ((tp, oa) :: (cel, ob) :: (ol, oc) :: (420, tabObj #[]) :: (56, tabObj #[]) :: rst)) (ha : ∀ p ∈ add, @LE.le Nat _ wl p.1) (hm : ∀ y, y ≠ Str.ofString "place" → m' y = if y = Str.ofString "way" then wy else if y = Str.ofString "label" then lb else m₀ y)
    (hs : LSt k i c) (hv : DatIn (add ++ c.tl) v o.dat) (ho : lawOp (2 + k) o) (hi : IntsAre cvs' ns' ∧ 0 < ns'.length ∧ ns'.length ≤ 60) :
    TPost g L (Str.ofString "place") (lmm m₀) (lhd tp cel ol n) (fun c => c.tl) (LSt k (i + 1)) c rst Q s₁ .next { s₁ with heap := h', toks := tk } := by
  obtain ⟨h1, h2, h3, h4, _⟩ := hs
  rw [List.push_toArray, show 1 + 2 * (c.i : Int) + 1 + 1 = 1 + 2 * ((c.i + 1 : Nat) : Int) by walk_at "om"] at N
  have up : ∀ p ∈ c.tl, p ∈ add ++ c.tl := fun p hp => List.mem_append.mpr (.inr hp)
  refine TPost.fin ⟨ti', cvs', c.ovs ++ [v], c.no + 1, c.os ++ [o], add ++ c.tl, wy, lb, c.i + 1⟩ add F N ?_ rfl ?_ hm ⟨by show c.i + 1 = i + 1; rw [h1], by show (c.os ++ [o]).length = i + 1; rw [List.length_append, h2]; rfl, ?_, ?_, ns', hi⟩
  · intro p hp
    simp only [lhd, List.cons_append, List.nil_append, List.mem_cons, List.mem_append] at hp ⊢
    rcases hp with h | h | h | h | h | h | h <;> simp [h]
  · intro p hp q hq
    have hq2 : @LT.lt Nat _ q.1 wl := by
      simp only [lhd, List.cons_append, List.nil_append, List.mem_cons] at hq
      rcases hq with h | h | h | h | h | h
      · rw [h]; exact hw.1
      · rw [h]; exact hw.2.1
      · rw [h]; exact hw.2.2.1
      · rw [h]; exact hw.2.2.2.1
      · rw [h]; exact hw.2.2.2.2.1
      · exact allLt_mem hw.2.2.2.2.2 q h
    exact Nat.ne_of_lt (Nat.lt_of_lt_of_le hq2 (ha p hp))
  · intro o' ho'
    rcases List.mem_append.mp ho' with h | h
    · exact h3 o' h
    · rw [List.mem_singleton.mp h]; exact ho
  · show DatAll (add ++ c.tl) (c.ovs ++ [v]) ((c.os ++ [o]).map Op.dat)
    rw [List.map_append]
    exact (h4.mono up).append (.one hv)
theorem pressed_law_s {w : World} {mean : ExcName → Option Value} {mg mb : Str → Option Value} {dp un : Nat} {gd : Option (List Code)} {cn : Str} {cs : Scope} {a : Addr} {ccd : Value} {cl : List (Str × Addr)} {outer : List Env} {A₀ : Around} {base g : Heap} {L : Addr} {m : Str → Option Value} {s : Shared} {Q E : Value → Shared → Prop}
    {la lb : Addr} {vs bvs : List Value} {n nb : Nat} {os : List Op} {bns : List Int} {R news : List (Addr × Obj)}
    (B : Below A₀ base outer g) (F : Fr g L s.heap m) (X : (hd.heap_39 w.params).In g) (N : News g L s.heap news) (hsub : ∀ p ∈ (420, tabObj #[]) :: (56, tabObj #[]) :: R, p ∈ news) (T : Top topProg LL mean mg mb g) (hk : cs.kind = .function) (hdp : dp + 40 < recursionLimit) (hun : un + 400 < cLine)
    (hR : ∀ p ∈ R, @Ne Nat p.1 420 ∧ @Ne Nat p.1 56) (h1 : (la, listOf vs.toArray n) ∈ R) (hD : DatAll R vs (os.map Op.dat)) (hlaw : ∀ o ∈ os, lawOp os.length o) (hlen : os.length ≤ 50) (h2 : (lb, listOf bvs.toArray nb) ∈ R) (hB : IntsAre bvs bns ∧ bns.length ≤ 60) (hbb : ∀ b ∈ bns, 0 ≤ b ∧ b ≤ (os.length : Int))
    (hret : ∀ tl2 ps' tp dl dz ys zs kl kz h' tk', Fr g L h' m → News g L h' ((420, tabObj #[]) :: (56, tabObj ps') :: tl2) → (∀ p ∈ tl2, p.1 ≠ 420 ∧ p.1 ≠ 56) → TabSt lamQ ps' tl2 → (tp, tupO #[.ref dl, .ref dz]) ∈ tl2 → (dl, listOf ys.toArray kl) ∈ tl2 → (dz, listOf zs.toArray kz) ∈ tl2 → (∀ p ∈ R, p ∈ tl2) →
      DatAll tl2 ys ((pressedD os).map Op.dat) → IntsAre zs (pressedB os bns) ∧ True → Q (.ref tp) { s with heap := h', toks := tk' }) :
    wpAny (model PySem.Challenge.rw_pb0246_01.row.prog w) (ktrTop dp un gd cn cs L a ccd cl outer) (call (.ref 59) [.ref la, .ref lb]) Q E s := by
  have hup : ∀ p ∈ R, p ∈ (420, tabObj #[]) :: R := fun p hp => List.mem_cons_of_mem _ hp
  refine Calls.use (pressed_spec (os := os) (bns := bns) (vs := vs) (bvs := bvs) (ps := #[]) (n := n) (nb := nb) (rest := (420, tabObj #[]) :: R)
    (hup _ h1) (hD.mono hup) (fun d hd => kqd_up 7 d (ops_ok hlaw d hd)) (by walk_at "om") (fun o ho => lawOp_labels (hlaw o ho)) (hup _ h2) hB hbb ?h56 (.inl rfl)) B F X N ?hs T hk hdp hun ?ret
  case h56 =>
    intro p hp
    rcases List.mem_cons.mp hp with rfl | hp
    · exact (by decide : @Ne Nat 420 56)
    · exact (hR p hp).2
  case hs =>
    intro p hp
    refine hsub p ?_
    simp only [List.mem_cons] at hp ⊢
    rcases hp with h | h | h <;> simp [h]
  case ret =>
    rintro r nw h' tk' F' N' ⟨tp, dl, dz, ys, zs, kl, kz, add, ps', rfl, rfl, hf, hT', m1, m2, m3, hys, hzs⟩
    have hcut : ∀ p ∈ add ++ (420, tabObj #[]) :: R, (p.2.cls = .type "tuple" ∨ p.2.cls = .type "list") → p ∈ add ++ R := by
      intro p hp hcl
      simp only [List.mem_cons, List.mem_append] at hp ⊢
      rcases hp with h | h | h
      · exact .inl h
      · subst h; exact absurd hcl (by simp [tabObj])
      · exact .inr h
    refine hret (add ++ R) ps' tp dl dz ys zs kl kz h' tk' F' (news_sub N' ?_) ?_ ?_ (List.mem_append.mpr (.inl m1)) (hcut _ m2 (.inr rfl)) (hcut _ m3 (.inr rfl)) (fun p hp => List.mem_append.mpr (.inr hp)) (DatAll.monoC hcut hys) ⟨hzs, trivial⟩
    · intro p hp
      simp only [List.mem_cons, List.mem_append] at hp ⊢
      rcases hp with h | h | h | h <;> simp [h]
    · intro p hp
      rcases List.mem_append.mp hp with hp | hp
      · exact ⟨Ne.symm (hf p hp (420, tabObj #[]) (by simp)), Ne.symm (hf p hp (56, tabObj #[]) (by simp))⟩
      · exact hR p hp
    · rcases hT' with h | ⟨c', oc, vv, t, e, hm, hd, hv⟩
      · exact .inl h
      · refine .inr ⟨c', oc, vv, t, e, ?_, hd, hv⟩
        simp only [List.mem_cons, List.mem_append] at hm ⊢
        rcases hm with h | h | h
        · exact .inl h
        · cases h
          cases hd
          simp at hv
        · exact .inr h
theorem pressed_law {w : World} {mean : ExcName → Option Value} {mg mb : Str → Option Value} {dp un : Nat} {gd : Option (List Code)} {cn : Str} {cs : Scope} {a : Addr} {ccd : Value} {cl : List (Str × Addr)} {outer : List Env} {A₀ : Around} {base g : Heap} {L : Addr} {m : Str → Option Value} {hp9 : Heap} {gn9 : Array GenState} {dr9 : Drawn} {tk9 : Nat} {os9 : OsState} {Q E : Value → Shared → Prop} {la lb : Addr} {vs bvs : List Value} {n nb : Nat} {os : List Op} {bns : List Int} {R news : List (Addr × Obj)} (B : Below A₀ base outer g) (F : Fr g L hp9 m) (X : (hd.heap_39 w.params).In g) (N : News g L hp9 news) (hsub : ∀ p ∈ (420, tabObj #[]) :: (56, tabObj #[]) :: R, p ∈ news) (T : Top topProg LL mean mg mb g) (hk : cs.kind = .function) (hdp : dp + 40 < recursionLimit) (hun : un + 400 < cLine) (hR : ∀ p ∈ R, @Ne Nat p.1 420 ∧ @Ne Nat p.1 56) (h1 : (la, listOf vs.toArray n) ∈ R) (hD : DatAll R vs (os.map Op.dat)) (hlaw : ∀ o ∈ os, lawOp os.length o) (hlen : os.length ≤ 50) (h2 : (lb, listOf bvs.toArray nb) ∈ R) (hB : IntsAre bvs bns ∧ bns.length ≤ 60) (hbb : ∀ b ∈ bns, 0 ≤ b ∧ b ≤ (os.length : Int)) (hret : ∀ tl2 ps' tp dl dz ys zs kl kz h' tk', Fr g L h' m → News g L h' ((420, tabObj #[]) :: (56, tabObj ps') :: tl2) → (∀ p ∈ tl2, p.1 ≠ 420 ∧ p.1 ≠ 56) → TabSt lamQ ps' tl2 → (tp, tupO #[.ref dl, .ref dz]) ∈ tl2 → (dl, listOf ys.toArray kl) ∈ tl2 → (dz, listOf zs.toArray kz) ∈ tl2 → (∀ p ∈ R, p ∈ tl2) →
      DatAll tl2 ys ((pressedD os).map Op.dat) → IntsAre zs (pressedB os bns) ∧ True → Q (.ref tp) ⟨h', gn9, dr9, tk', os9⟩) :
    wpAny (model PySem.Challenge.rw_pb0246_01.row.prog w) (ktrTop dp un gd cn cs L a ccd cl outer) (call (.ref 59) [.ref la, .ref lb]) Q E ⟨hp9, gn9, dr9, tk9, os9⟩ :=
  pressed_law_s (s := ⟨hp9, gn9, dr9, tk9, os9⟩) B F X N hsub T hk hdp hun hR h1 hD hlaw hlen h2 hB hbb hret
end S_S4a
section S_S4
local macro_rules | `(tactic| passes_own) => `(tactic| assumption)
local macro_rules | `(tactic| walk_at "call ref") => `(tactic| ((with_reducible show wpAny _ _ (call (Value.ref 413) _) _ _ _); refine Halt.out ?_))
local macro_rules | `(tactic| walk_at "call ref") => `(tactic| ((with_reducible show wpAny _ _ (call (Value.ref 59) _) _ _ _); refine Halt.out ?_))
local macro_rules | `(tactic| walk_at "eval BoolOp") => `(tactic| ((with_reducible show wpAny _ _ (eval (PySem.Expr.BoolOp PySem.BoolOp.Or _ _) _) _ _ _); refine Halt.out ?_))
local macro_rules | `(tactic| walk_at "execs cons") => `(tactic| ((with_reducible show wpAny _ _ (execs (PySem.Stmt.If (PySem.Expr.Compare (PySem.Expr.Tuple _ _ _) _ _ _) _ _ _ :: _) _) _ _ _); refine Halt.out ?_))
local macro_rules | `(tactic| walk_at "subscriptTail") => `(tactic| ((with_reducible show wpAny _ _ (subscriptTail (PySem.Expr.Tuple _ _ _) _ (Value.ref _) _) _ _ _); refine Halt.out ?_))
theorem seg1 {w : World} {mean : ExcName → Option Value} {mg mb : Str → Option Value} {dp un : Nat} {gd : Option (List Code)} {cn : Str} {a : Addr} {ccd : Value} {A₀ : Around} {base g : Heap} {L : Addr} {m : Str → Option Value} {s : Shared} {Q : Flow → Shared → Prop} {E : Value → Shared → Prop}
    {sa : Addr} {svs : List Value} {sns : List Int} {o1 o2 o3 : Obj}
    (B : Below A₀ base [] g) (F : Fr g L s.heap m) (X : (hd.heap_39 w.params).In g) (N : News g L s.heap [(L + 1 + 1 + 1, o3), (L + 1 + 1, o2), (L + 1, o1), (420, tabObj #[]), (56, tabObj #[])]) (T : Top topProg LL mean mg mb g) (XB : (hd.heap_39 w.params).In base) (TB : Top topProg LL mean mg mb base) (hE : PassesOwn (model PySem.Challenge.rw_pb0246_01.row.prog w) (ktrTop dp un gd cn lawScope L a ccd (cellsFrom (L + 1) lawScope.names []) []) (envX cn lawScope L a ccd (cellsFrom (L + 1) lawScope.names [])) E) (hdp : dp + 400 < recursionLimit) (hun : un + 5000 < cLine)
    (hS : g.IsList sa svs.toArray) (hI : IntsAre svs sns ∧ sns.length ≤ 63) (m1 : m (Str.ofString "script") = some (.ref sa)) (d1 : o1.data = .cell none) (d2 : o2.data = .cell none) (d3 : o3.data = .cell none) (hlt : @LT.lt Nat _ 420 L ∧ @LT.lt Nat _ 56 L)
    (hQ : ∀ h' tk', (∀ b o, g.get? b = some o → h'.get? b = some o) → GrownAt 420 h' → GrownAt 56 h' → Q (.ret (.bool true)) { s with heap := h', toks := tk' }) :
    wpAny (model PySem.Challenge.rw_pb0246_01.row.prog w) (ktrTop dp un gd cn lawScope L a ccd (cellsFrom (L + 1) lawScope.names []) []) (execs (lawRest 0) (envX cn lawScope L a ccd (cellsFrom (L + 1) lawScope.names []))) Q E s := by
  conv in (lawRest 0) => whnf
  k_steps
  refine ⟨?_⟩
  try refine settle (g0 := s.gens) (d0 := s.drawn) (o0 := s.os) rfl rfl rfl fun tk8 => ?_
  k_dflt (refine cells_spec B F X N T ?r1 ?u1 hS hI.1 hI.2 m1 ?hQ1)
  case r1 => ktr_room
  case u1 => ktr_units
  intro cel vs n ns h1 tk1 F2 N2 l2 hi2 hp2 hl2
  have hin : IntsAre vs ns ∧ 0 < ns.length ∧ ns.length ≤ 60 := ⟨hi2, hp2, hl2⟩
  have l2a : @LT.lt Nat _ (L + 1 + 1 + 1) cel := l2 (L + 1 + 1 + 1, o3) (by simp)
  clear l2 hi2 F N
  k_steps
  rename_i tp hA lA hB oT F3 N3 dT
  refine ⟨?_⟩
  try refine settle (g0 := s.gens) (d0 := s.drawn) (o0 := s.os) rfl rfl rfl fun tk8 => ?_
  k_dflt (refine draw_call (R := [(L + 1 + 1 + 1, o3), (L + 1 + 1, o2), (L + 1, oT), (420, tabObj #[]), (56, tabObj #[])]) B F3 X N3 (fun _ h => h) T rfl ?r2 ?u2 hin (by decide) (by decide) (by decide) (by decide) ?ne ?hr ?hd)
  case r2 => ktr_room
  case u2 => ktr_units
  case ne => walk_at "om"
  case hr =>
    intro p hp
    simp only [List.mem_cons, List.not_mem_nil, or_false] at hp
    rcases hp with rfl | rfl | rfl | rfl | rfl <;> constructor <;> dsimp only <;> walk_at "om"
  case hd =>
    intro x0 t0 ti0 cvs0 ns0 h4 tk4 hx0 hx1 hin0 F4 N4
    obtain ⟨k, rfl⟩ : ∃ k : Nat, x0 = (k : Int) := ⟨x0.toNat, by walk_at "om"⟩
    clear F3 N3
    k_steps
    rename_i oM dM tkM ol hC lC hD' oO FX NX dO hz tkz tz uz vz RZ FZ NZ KZ
    refine ⟨?_⟩
    try refine settle (g0 := s.gens) (d0 := s.drawn) (o0 := s.os) rfl rfl rfl fun tk8 => ?_
    clear FX NX KZ
    have hk9 : k ≤ 8 := by walk_at "om"
    have e2 : (2 + (k : Int)) = ((2 + k : Nat) : Int) := by walk_at "om"
    refine for_rng (σ := LS) (n := 2 + k) lmm (lhd tp cel ol n) (fun c => c.tl) [tp, cel, ol, 420, 56] (LSt k) ⟨ti0, cvs0, [], 0, [], [(L + 1 + 1 + 1, oO), (L + 1 + 1, oM), (L + 1, oT)], m (Str.ofString "way"), m (Str.ofString "label"), 0⟩
      rfl RZ (by rw [e2]; exact rng_small (by walk_at "om")) (by rw [e2]; exact rng_size _) FZ NZ ?hsub (fun _ => rfl) ?hoff ?hm ?h0 ?turn ?done
    case hsub =>
      intro p hp
      simp only [lhd, List.cons_append, List.nil_append, List.mem_cons, List.not_mem_nil, or_false] at hp ⊢
      rcases hp with h | h | h | h | h | h | h | h
      · exact .inr (.inl h)
      all_goals simp [h]
    case hoff =>
      intro p hp a ha
      simp only [List.mem_cons, List.not_mem_nil, or_false] at ha hp
      rcases hp with rfl | rfl | rfl <;> rcases ha with rfl | rfl | rfl | rfl | rfl <;> (show @Ne Nat _ _) <;> dsimp only <;> walk_at "om"
    case hm =>
      intro y hy
      unfold lmm
      by_cases h : y = Str.ofString "way"
      · rw [if_pos h, h]
      · rw [if_neg h]
        by_cases h' : y = Str.ofString "label"
        · rw [if_pos h', h']
        · rw [if_neg h']
    case h0 =>
      unfold LSt
      dsimp only
      exact ⟨rfl, rfl, fun o h => absurd h List.not_mem_nil, DatAll.nil, ns0, hin0⟩
    case turn =>
      -- <<turn
      intro i ti c rst h tk hi hs hr1 hr2 hr3 F' N' W8 hW8
      have hs' := hs
      obtain ⟨hci, hcl, hlaw, hD, ns', hni⟩ := hs
      have cT : (L + 1, oT) ∈ rst := hr1 _ (hr2 _ (by simp))
      have cM : (L + 1 + 1, oM) ∈ rst := hr1 _ (hr2 _ (by simp))
      have cO : (L + 1 + 1 + 1, oO) ∈ rst := hr1 _ (hr2 _ (by simp))
      have hz1 : c.ovs.length ≤ 1000 := by rw [hD.length, List.length_map]; walk_at "om"
      have hoffol : ∀ p ∈ rst, p.1 ≠ ol := fun p hp => hr3 p hp ol (by simp)
      clear FZ NZ RZ
      dsimp only [lhd, List.cons_append, List.nil_append] at N'
      k_steps
      refine ⟨?_⟩
      try refine settle (g0 := s.gens) (d0 := s.drawn) (o0 := s.os) rfl rfl rfl fun tk8 => ?_
      (with_reducible rename News _ _ _ _ => N5)
      (with_reducible rename Fr _ _ _ _ => F5)
      k_dflt (refine draw_call (R := (ol, listOf c.ovs.toArray c.no) :: (420, tabObj #[]) :: (56, tabObj #[]) :: rst) B F5 X N5 (fun _ h => h) T rfl ?r3 ?u3 hni (by walk_at "om") (by walk_at "om") (by decide) (by decide) ?ne3 ?hr3 ?hd3)
      case r3 => ktr_room
      case u3 => ktr_units
      case ne3 => walk_at "om"
      case hr3 =>
        intro p hp
        simp only [List.mem_cons] at hp
        rcases hp with rfl | rfl | rfl | hp
        · constructor <;> dsimp only <;> walk_at "om"
        · constructor <;> dsimp only <;> walk_at "om"
        · constructor <;> dsimp only <;> walk_at "om"
        · exact ⟨hr3 p hp tp (by simp), hr3 p hp cel (by simp)⟩
      case hd3 =>
        intro x1 t1 ti1 cvs1 ns1 h5 tk5 hx10 hx11 hin1 F6 N6
        clear F5 N5
        k_steps
        refine ⟨?_⟩
        try refine settle (g0 := s.gens) (d0 := s.drawn) (o0 := s.os) rfl rfl rfl fun tk8 => ?_
        (with_reducible rename News _ _ _ _ => N7)
        (with_reducible rename Fr _ _ _ _ => F7)
        k_dflt (refine draw_call (R := (ol, listOf c.ovs.toArray c.no) :: (420, tabObj #[]) :: (56, tabObj #[]) :: rst) B F7 X N7 (fun _ h => h) T rfl ?r4 ?u4 hin1 (by walk_at "om") (by walk_at "om") (by walk_at "om") (by walk_at "om") ?ne4 ?hr4 ?hd4)
        case r4 => ktr_room
        case u4 => ktr_units
        case ne4 => walk_at "om"
        case hr4 =>
          intro p hp
          simp only [List.mem_cons] at hp
          rcases hp with rfl | rfl | rfl | hp
          · constructor <;> dsimp only <;> walk_at "om"
          · constructor <;> dsimp only <;> walk_at "om"
          · constructor <;> dsimp only <;> walk_at "om"
          · exact ⟨hr3 p hp tp (by simp), hr3 p hp cel (by simp)⟩
        case hd4 =>
          intro x2 t2 ti2 cvs2 ns2 h6 tk6 hx20 hx21 hin2 F8 N8
          clear F7 N7
          k_steps
          refine ⟨?_⟩
          try refine settle (g0 := s.gens) (d0 := s.drawn) (o0 := s.os) rfl rfl rfl fun tk8 => ?_
          (with_reducible rename News _ _ _ _ => N9)
          (with_reducible rename Fr _ _ _ _ => F9)
          k_dflt (refine pick_op N9 hx10 hx11 hx20 hx21 ?hp ?hss)
          case hss => intro n9; with_unfolding_all rfl
          case hp =>
            intro v o hv ho
            k_steps
            (with_reducible rename News _ _ _ _ => N10)
            (with_reducible rename Fr _ _ _ _ => F10)
            refine hW8 _ _ ?_
            refine ops_turn (add := [_, _, _, _, _, _, _, _, _]) (oa := tabObj #[]) (ob := tabObj #[]) (oc := tabObj #[]) (wy := some (.int x1 t1)) (lb := some (.int x2 t2)) F10 (news_sub N10 (sub_top (sub_top (sub_top (sub_top (sub_top (sub_top (sub_top (sub_top (sub_top (sub_skip sub_refl))))))))))) (by assumption) ?ha ?gm hs' (hv.mono fun p hp => List.mem_append.mpr (.inl hp)) ho hin2
            case ha =>
              intro p hp
              simp only [List.mem_cons, List.not_mem_nil, or_false] at hp
              rcases hp with rfl | rfl | rfl | rfl | rfl | rfl | rfl | rfl | rfl <;> dsimp only <;> walk_at "om"
            case gm =>
              intro y hy
              by_cases h : y = Str.ofString "way"
              · subst h; exact rfl
              · by_cases h' : y = Str.ofString "label"
                · subst h'; exact rfl
                · simp only [if_neg h, if_neg h', if_neg hy, lmm]
      -- turn>>
    case done =>
      -- <<done
      intro c u h tk hs hsub hr3 F' N'
      obtain ⟨hci, hcl, hlaw, hD, ns', hni⟩ := hs
      have hvl : c.ovs.length = 2 + k := by rw [hD.length, List.length_map, hcl]
      have cT : (L + 1, oT) ∈ c.tl := hsub _ (by simp)
      have cM : (L + 1 + 1, oM) ∈ c.tl := hsub _ (by simp)
      have cO : (L + 1 + 1 + 1, oO) ∈ c.tl := hsub _ (by simp)
      clear FZ NZ RZ
      dsimp only [lhd, List.cons_append, List.nil_append] at N'
      k_steps
      refine ⟨?_⟩
      try refine settle (g0 := s.gens) (d0 := s.drawn) (o0 := s.os) rfl rfl rfl fun tk8 => ?_
      k_dflt (refine LCg.Assign_ListComp_U (F₀ := by k_asm) (by rfl) (by with_unfolding_all rfl) (by with_unfolding_all rfl) (by decide) (by rfl) (by decide) (by rfl) (by rfl) (by rfl) ?_)
      k_steps
      refine ⟨?_⟩
      try refine settle (g0 := s.gens) (d0 := s.drawn) (o0 := s.os) rfl rfl rfl fun tk8 => ?_
      (with_reducible rename News _ _ _ _ => N5)
      (with_reducible rename Fr _ _ _ _ => F5)
      (with_reducible rename IsRange _ _ _ _ _ _ _ _ => R5)
      refine CompSrc.range (n := 3) rfl F5 N5 R5 (by decide) (by decide) (Nat.le_of_ble_eq_true rfl) ?_
      intro g7
      refine rest_inv 3 (fun i zs nw => ∃ ti cvs ns2, nw = (tp, listOf #[.ref cel, .int (1 + 2 * (c.i : Int) + (i : Int)) ti] 0) :: (cel, listOf cvs.toArray n) :: (ol, listOf c.ovs.toArray c.no) :: (420, tabObj #[]) :: (56, tabObj #[]) :: c.tl ∧ (IntsAre cvs ns2 ∧ 0 < ns2.length ∧ ns2.length ≤ 60) ∧ ∃ bns, IntsAre zs bns ∧ bns.length = i ∧ ∀ b ∈ bns, 0 ≤ b ∧ b ≤ 2 + (k : Int)) ?bturn ?bfin 3 0 [] _ (by simp) ⟨c.ti, c.cvs, ns', by simp, hni, [], .nil, rfl, by simp⟩
      case bturn =>
        -- <<bturn
        rintro i zs nw hi ⟨ti2, cvs2, ns2, rfl, hn2, bns, hb1, hb2, hb3⟩ v I oI C oC D2 m₂ h8 tk8 E8 hP hns hx F8 N8 off8 ne8
        clear F5 N5 R5
        k_steps
        refine ⟨?_⟩
        try refine settle (g0 := s.gens) (d0 := s.drawn) (o0 := s.os) rfl rfl rfl fun tk8 => ?_
        (with_reducible rename News _ _ _ _ => N9)
        (with_reducible rename Fr _ _ _ _ => F9)
        have o8 := off8.mem
        have o8a := o8 (tp, listOf #[.ref cel, .int (1 + 2 * (c.i : Int) + (i : Int)) ti2] 0) (by simp)
        have o8b := o8 (cel, listOf cvs2.toArray n) (by simp)
        k_dflt (refine draw_call (ca := cel) (n1 := 0) (n2 := n) (ti := ti2) (i := 1 + 2 * (c.i : Int) + (i : Int)) (R := (I, oI) :: (C, oC) :: (D2, lst zs) :: (ol, listOf c.ovs.toArray c.no) :: (420, tabObj #[]) :: (56, tabObj #[]) :: c.tl) B F9 X N9 ?hs6 T rfl ?r6 ?u6 hn2 (by walk_at "om") (by walk_at "om") (by walk_at "om") (by walk_at "om") ?ne6 ?hr6 ?hd6)
        case hs6 =>
          intro p hp
          simp only [List.mem_cons] at hp ⊢
          rcases hp with h | h | h | h | h | h | h | h | h <;> simp [h]
        case r6 => ktr_room
        case u6 => ktr_units
        case ne6 => walk_at "om"
        case hr6 =>
          intro p hp
          simp only [List.mem_cons] at hp
          rcases hp with rfl | rfl | rfl | rfl | rfl | rfl | hp
          · exact ⟨Ne.symm o8a.1, Ne.symm o8b.1⟩
          · exact ⟨Ne.symm o8a.2.1, Ne.symm o8b.2.1⟩
          · exact ⟨Ne.symm o8a.2.2, Ne.symm o8b.2.2⟩
          · constructor <;> dsimp only <;> walk_at "om"
          · constructor <;> dsimp only <;> walk_at "om"
          · constructor <;> dsimp only <;> walk_at "om"
          · exact ⟨hr3 p hp tp (by simp), hr3 p hp cel (by simp)⟩
        case hd6 =>
          intro x3 t3 ti3 cvs3 ns3 h9 tk9 hx30 hx31 hin3 F10 N10
          clear F9 N9
          k_steps
          rw [show 1 + 2 * (c.i : Int) + (i : Int) + 1 = 1 + 2 * (c.i : Int) + ((i + 1 : Nat) : Int) by walk_at "om"] at N10
          refine CompEnd.intro F10 N10 ((tp, listOf #[.ref cel, .int (1 + 2 * (c.i : Int) + ((i + 1 : Nat) : Int)) ti3] 0) :: (cel, listOf cvs3.toArray n) :: (ol, listOf c.ovs.toArray c.no) :: (420, tabObj #[]) :: (56, tabObj #[]) :: c.tl) ?subc (Off3.of ?off) trivial ⟨ti3, cvs3, ns3, rfl, hin3, bns ++ [x3], ints_snoc hb1, by rw [List.length_append, hb2]; rfl, ?hb⟩
          case subc =>
            intro p hp
            simp only [List.mem_cons] at hp ⊢
            rcases hp with h | h | h | h | h | h | h | h | h <;> simp [h]
          case off =>
            intro p hp
            simp only [List.mem_cons] at hp
            rcases hp with rfl | rfl | rfl | rfl | rfl | hp
            · exact o8a
            · exact o8b
            · exact o8 (ol, listOf c.ovs.toArray c.no) (by simp)
            · exact o8 (420, tabObj #[]) (by simp)
            · exact o8 (56, tabObj #[]) (by simp)
            · exact o8 p (by simp [hp])
          case hb =>
            intro b hb
            rcases List.mem_append.mp hb with hb | hb
            · exact hb3 b hb
            · rw [List.mem_singleton.mp hb]; exact ⟨hx30, by walk_at "om"⟩
        -- bturn>>
      case bfin =>
        -- <<bfin
        rintro zs nw ⟨ti2, cvs2, ns2, rfl, hn2, bns, hb1, hb2, hb3⟩ D2 h8 tk8 F8 N8 off8
        have hb4 : IntsAre zs bns ∧ bns.length ≤ 60 := ⟨hb1, by walk_at "om"⟩
        have hzl : zs.length ≤ 100 := by rw [hb1.length]; walk_at "om"
        clear F5 N5 R5 hb1
        k_steps
        rename_i ol2 kA hA1 lA1 bl2 kB hB1 lB1 ha hC1 lC1 hD1 F9 N9
        refine ⟨?_⟩
        try refine settle (g0 := s.gens) (d0 := s.drawn) (o0 := s.os) rfl rfl rfl fun tk8 => ?_
        have hlaw' : ∀ o ∈ c.os, lawOp c.os.length o := by rw [hcl]; exact hlaw
        have hbb : ∀ b ∈ bns, 0 ≤ b ∧ b ≤ (c.os.length : Int) := fun b hb => ⟨(hb3 b hb).1, by have := (hb3 b hb).2; walk_at "om"⟩
        have hRt : ∀ p ∈ c.tl, p ∈ (ha, tupO #[.ref ol2, .ref bl2]) :: (bl2, listOf zs.toArray kB) :: (ol2, listOf c.ovs.toArray kA) :: (D2, lst zs) :: (ol, listOf c.ovs.toArray c.no) :: c.tl := fun p hp => List.mem_cons_of_mem _ (List.mem_cons_of_mem _ (List.mem_cons_of_mem _ (List.mem_cons_of_mem _ (List.mem_cons_of_mem _ hp))))
        k_dflt (refine pressed_law (os := c.os) (bns := bns) (vs := c.ovs) (bvs := zs) (n := c.no) (R := (ha, tupO #[.ref ol2, .ref bl2]) :: (bl2, listOf zs.toArray kB) :: (ol2, listOf c.ovs.toArray kA) :: (D2, lst zs) :: (ol, listOf c.ovs.toArray c.no) :: c.tl) B F9 X N9 ?hs8 T rfl ?r8 ?u8 ?hR8 (List.mem_cons_of_mem _ (List.mem_cons_of_mem _ (List.mem_cons_of_mem _ (List.mem_cons_of_mem _ List.mem_cons_self)))) (hD.mono hRt) hlaw' (by walk_at "om") (List.mem_cons_of_mem _ (List.mem_cons_of_mem _ (List.mem_cons_of_mem _ List.mem_cons_self))) hb4 hbb ?hret8)
        case hs8 =>
          intro p hp
          simp only [List.mem_cons] at hp ⊢
          rcases hp with h | h | h | h | h | h | h | h <;> simp [h, tupO]
        case r8 => ktr_room
        case u8 => ktr_units
        case hR8 =>
          have o8 := off1_mem off8
          intro p hp
          simp only [List.mem_cons] at hp
          rcases hp with rfl | rfl | rfl | rfl | rfl | hp
          · constructor <;> dsimp only <;> walk_at "om"
          · constructor <;> dsimp only <;> walk_at "om"
          · constructor <;> dsimp only <;> walk_at "om"
          · exact ⟨Ne.symm (o8 (420, tabObj #[]) (by simp)), Ne.symm (o8 (56, tabObj #[]) (by simp))⟩
          · constructor <;> dsimp only <;> walk_at "om"
          · exact ⟨hr3 p hp 420 (by simp), hr3 p hp 56 (by simp)⟩
        case hret8 =>
          intro tl2 ps' tp2 dl dz ys zs2 kl kz h9 tk9 F10 N10 hw2 hT2 mA mB mC hup hys hzs
          have hyl := hys.length
          clear F9 N9
          k_steps
          refine ⟨?_⟩
          try refine settle (g0 := s.gens) (d0 := s.drawn) (o0 := s.os) rfl rfl rfl fun tk8 => ?_
          (with_reducible rename News _ _ _ _ => N11)
          (with_reducible rename Fr _ _ _ _ => F11)
          refine seg2 (os := c.os) (bns := bns) (M := 2 + (k : Int)) (ps := ps') (rest := tl2) (bl := D2) (ha := ha) (ol2 := ol2) (bl2 := bl2) (ol := ol) (dl := dl) (dz := dz) B F11 X N11 T XB TB hE (by walk_at "om") (by walk_at "om") hS hI m1 rfl rfl rfl rfl (hup _ (hRt _ cO)) dO (hup _ (hRt _ cM)) dM (by walk_at "om") (hup _ (List.mem_cons_of_mem _ (List.mem_cons_of_mem _ (List.mem_cons_of_mem _ (List.mem_cons_of_mem _ List.mem_cons_self))))) (hD.mono fun p hp => hup _ (hRt _ hp)) (by walk_at "om") hlaw' mB hys mC hzs hw2 hT2
            (hup _ (List.mem_cons_of_mem _ (List.mem_cons_of_mem _ (List.mem_cons_of_mem _ List.mem_cons_self)))) hb4 hbb (hup _ List.mem_cons_self) (hup _ (List.mem_cons_of_mem _ (List.mem_cons_of_mem _ List.mem_cons_self))) (hup _ (List.mem_cons_of_mem _ List.mem_cons_self)) (fun h' tk' a b c => hQ h' tk' a b c)
        -- bfin>>
      -- done>>
end S_S4
end G_S1_S4
end G_E4_S4
end Mine
theorem PySem.Challenge.cw_pb0246_01_holds : PySem.Challenge.rw_pb0246_01.Holds := by
  w_on
  refine holds_law Mine.hd.ws fun said => ?_
  refine holds_open (q := Mine.hd.view_39) (loose := Mine.hd.lo) (Xt := fun s => xlAt Mine.hd.view_39 [] s && recOk PySem.Challenge.rw_pb0246_01.row.records s) (XP := XL Mine.hd.view_39 []) (Yf := (kmHook Mine.hd.heap_39 Mine.hd.as Mine.hd.asK [420, 56]).obs) (Ya := (kmHook Mine.hd.heap_39 Mine.hd.as Mine.hd.asK [420, 56]).val) (YP := (kmHook Mine.hd.heap_39 Mine.hd.as Mine.hd.asK [420, 56]).says) (N := 6452) Mine.hd.left
    (Hook.of _) (Hook.keeps _) (fun s e => xl_of s (Bool.and_eq_true_iff.mp e).1) XL.keeps (by rfl) (by rfl) (by rfl) (fun s e => recFacts_of (Bool.and_eq_true_iff.mp e).2) (by rfl) said (by decide +kernel) ⟨rfl, rfl, rfl, rfl, rfl, by decide +kernel⟩ ?hw ?hc
  case hw => w_witness2
  k_go0
  (with_reducible rename Below _ _ _ _ => KB)
  (with_reducible rename Fr _ _ _ _ => KF)
  (with_reducible rename News _ _ _ _ => KN)
  (with_reducible rename Frag.In _ _ => KX)
  (with_reducible rename Top _ _ _ _ _ _ => KT)
  (with_reducible rename IntsAre _ _ => KI)
  (with_reducible rename Heap.IsList _ _ _ => KL)
  refine Mine.seg1 KB KF KX KN KT KX KT ?hE ?hdp ?hun KL ⟨KI, ?h63⟩ ?m1 ?d1 ?d2 ?d3 ?hlt ?hQ
  case h63 => omega
  case hdp => decide
  case hun => exact Nat.le_of_ble_eq_true rfl
  case m1 => exact rfl
  case d1 => assumption
  case d2 => assumption
  case d3 => assumption
  case hlt => assumption
  case hE => passes_own
  case hQ =>
    intro h' tk' hk g1 g2
    refine ⟨⟨.inl ⟨.bool true, _, _, rfl, fun _ => rfl, ReadsW.bool true, ?post, ?un⟩, hk, rfl, ?gens⟩, g1, g2, trivial⟩
    case un => exact fun _ => ⟨List.nodup_nil, fun _ h => absurd h List.not_mem_nil⟩
    case gens => assumption
    case post => first | wrow_post | (w_end; wrow_post) | decide +kernel

