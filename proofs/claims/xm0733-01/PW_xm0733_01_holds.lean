import PyProof.Rows.All
import Wide.All
import OpenK.AllK
import Wide.FinOn
import PySem.Challenge.RW_xm0733_01
open PySem PySem.W PyProof.Rows PySem.Calls PySem.Spec
set_option Elab.async false
set_option compiler.extract_closed false
set_option genInjectivity false
set_option genSizeOf false
set_option maxRecDepth 100000
set_option maxHeartbeats 0
namespace Mine
variable {s : Shared}
-- 000_k
noncomputable abbrev PG0 : Program := PySem.Challenge.pw_xm0733_01
def stAt : List Stmt → List Nat → Option Stmt
  | l, [i] => l[i]?
  | l, i :: r => match l[i]? with
    | some (.ClassDef _ _ _ b _ _ _ _ _ _ _) => stAt b r
    | _ => none
  | _, [] => none
def fBody : Option Stmt → List Stmt
  | some (.FunctionDef _ _ b _ _ _ _ _ _ _) => b
  | _ => []
def fArgs : Option Stmt → Arguments
  | some (.FunctionDef _ a _ _ _ _ _ _ _ _) => a
  | _ => ⟨[], [], none, [], [], none, []⟩
def fPos : Option Stmt → Pos
  | some (.FunctionDef _ _ _ _ _ _ _ _ _ p) => p
  | _ => ⟨0, 0, 0, 0⟩
def fScope : Option Stmt → Scope
  | some (.FunctionDef _ _ _ _ _ _ s _ _ _) => s
  | _ => ⟨.module, [], false, false, []⟩
noncomputable abbrev fb0 : List Stmt := (fun (a : Stmt) (b : List Stmt) (_ : a :: b = fBody (stAt PG0.main.body [0])) => a :: b) _ _ rfl
noncomputable abbrev fa0 : Arguments := (fun (a : List Arg) (b : List Arg) (c : Option Arg) (d : List Arg) (e : List (Option Expr)) (f : Option Arg) (g : List Expr) (_ : Arguments.mk a b c d e f g = fArgs (stAt PG0.main.body [0])) => Arguments.mk a b c d e f g) _ _ _ _ _ _ _ rfl
noncomputable abbrev fs0 : Scope := (fun (a : ScopeKind) (b : List (Str × NameKind)) (c d : Bool) (e : List (Str × Const)) (_ : Scope.mk a b c d e = fScope (stAt PG0.main.body [0])) => Scope.mk a b c d e) _ _ _ _ _ rfl
noncomputable abbrev fb1 : List Stmt := (fun (a : Stmt) (b : List Stmt) (_ : a :: b = fBody (stAt PG0.main.body [2])) => a :: b) _ _ rfl
noncomputable abbrev fa1 : Arguments := (fun (a : List Arg) (b : List Arg) (c : Option Arg) (d : List Arg) (e : List (Option Expr)) (f : Option Arg) (g : List Expr) (_ : Arguments.mk a b c d e f g = fArgs (stAt PG0.main.body [2])) => Arguments.mk a b c d e f g) _ _ _ _ _ _ _ rfl
noncomputable abbrev fs1 : Scope := (fun (a : ScopeKind) (b : List (Str × NameKind)) (c d : Bool) (e : List (Str × Const)) (_ : Scope.mk a b c d e = fScope (stAt PG0.main.body [2])) => Scope.mk a b c d e) _ _ _ _ _ rfl
noncomputable abbrev fb2 : List Stmt := (fun (a : Stmt) (b : List Stmt) (_ : a :: b = fBody (stAt PG0.main.body [3])) => a :: b) _ _ rfl
noncomputable abbrev fa2 : Arguments := (fun (a : List Arg) (b : List Arg) (c : Option Arg) (d : List Arg) (e : List (Option Expr)) (f : Option Arg) (g : List Expr) (_ : Arguments.mk a b c d e f g = fArgs (stAt PG0.main.body [3])) => Arguments.mk a b c d e f g) _ _ _ _ _ _ _ rfl
noncomputable abbrev fs2 : Scope := (fun (a : ScopeKind) (b : List (Str × NameKind)) (c d : Bool) (e : List (Str × Const)) (_ : Scope.mk a b c d e = fScope (stAt PG0.main.body [3])) => Scope.mk a b c d e) _ _ _ _ _ rfl
noncomputable abbrev fb3 : List Stmt := (fun (a : Stmt) (b : List Stmt) (_ : a :: b = fBody (stAt PG0.main.body [5, 0])) => a :: b) _ _ rfl
noncomputable abbrev fa3 : Arguments := (fun (a : List Arg) (b : List Arg) (c : Option Arg) (d : List Arg) (e : List (Option Expr)) (f : Option Arg) (g : List Expr) (_ : Arguments.mk a b c d e f g = fArgs (stAt PG0.main.body [5, 0])) => Arguments.mk a b c d e f g) _ _ _ _ _ _ _ rfl
noncomputable abbrev fs3 : Scope := (fun (a : ScopeKind) (b : List (Str × NameKind)) (c d : Bool) (e : List (Str × Const)) (_ : Scope.mk a b c d e = fScope (stAt PG0.main.body [5, 0])) => Scope.mk a b c d e) _ _ _ _ _ rfl
noncomputable abbrev fb4 : List Stmt := (fun (a : Stmt) (b : List Stmt) (_ : a :: b = fBody (stAt PG0.main.body [9])) => a :: b) _ _ rfl
noncomputable abbrev fa4 : Arguments := (fun (a : List Arg) (b : List Arg) (c : Option Arg) (d : List Arg) (e : List (Option Expr)) (f : Option Arg) (g : List Expr) (_ : Arguments.mk a b c d e f g = fArgs (stAt PG0.main.body [9])) => Arguments.mk a b c d e f g) _ _ _ _ _ _ _ rfl
noncomputable abbrev fs4 : Scope := (fun (a : ScopeKind) (b : List (Str × NameKind)) (c d : Bool) (e : List (Str × Const)) (_ : Scope.mk a b c d e = fScope (stAt PG0.main.body [9])) => Scope.mk a b c d e) _ _ _ _ _ rfl
noncomputable abbrev fb5 : List Stmt := (fun (a : Stmt) (b : List Stmt) (_ : a :: b = fBody (stAt PG0.main.body [10])) => a :: b) _ _ rfl
noncomputable abbrev fa5 : Arguments := (fun (a : List Arg) (b : List Arg) (c : Option Arg) (d : List Arg) (e : List (Option Expr)) (f : Option Arg) (g : List Expr) (_ : Arguments.mk a b c d e f g = fArgs (stAt PG0.main.body [10])) => Arguments.mk a b c d e f g) _ _ _ _ _ _ _ rfl
noncomputable abbrev fb6 : List Stmt := (fun (a : Stmt) (b : List Stmt) (_ : a :: b = fBody (stAt PG0.main.body [11])) => a :: b) _ _ rfl
noncomputable abbrev fa6 : Arguments := (fun (a : List Arg) (b : List Arg) (c : Option Arg) (d : List Arg) (e : List (Option Expr)) (f : Option Arg) (g : List Expr) (_ : Arguments.mk a b c d e f g = fArgs (stAt PG0.main.body [11])) => Arguments.mk a b c d e f g) _ _ _ _ _ _ _ rfl
noncomputable abbrev fs6 : Scope := (fun (a : ScopeKind) (b : List (Str × NameKind)) (c d : Bool) (e : List (Str × Const)) (_ : Scope.mk a b c d e = fScope (stAt PG0.main.body [11])) => Scope.mk a b c d e) _ _ _ _ _ rfl
noncomputable abbrev fb7 : List Stmt := (fun (a : Stmt) (b : List Stmt) (_ : a :: b = fBody (stAt PG0.main.body [12])) => a :: b) _ _ rfl
noncomputable abbrev fa7 : Arguments := (fun (a : List Arg) (b : List Arg) (c : Option Arg) (d : List Arg) (e : List (Option Expr)) (f : Option Arg) (g : List Expr) (_ : Arguments.mk a b c d e f g = fArgs (stAt PG0.main.body [12])) => Arguments.mk a b c d e f g) _ _ _ _ _ _ _ rfl
noncomputable abbrev fs7 : Scope := (fun (a : ScopeKind) (b : List (Str × NameKind)) (c d : Bool) (e : List (Str × Const)) (_ : Scope.mk a b c d e = fScope (stAt PG0.main.body [12])) => Scope.mk a b c d e) _ _ _ _ _ rfl
noncomputable abbrev fb8 : List Stmt := (fun (a : Stmt) (b : List Stmt) (_ : a :: b = fBody (stAt PG0.main.body [13])) => a :: b) _ _ rfl
noncomputable abbrev fa8 : Arguments := (fun (a : List Arg) (b : List Arg) (c : Option Arg) (d : List Arg) (e : List (Option Expr)) (f : Option Arg) (g : List Expr) (_ : Arguments.mk a b c d e f g = fArgs (stAt PG0.main.body [13])) => Arguments.mk a b c d e f g) _ _ _ _ _ _ _ rfl
noncomputable abbrev fs8 : Scope := (fun (a : ScopeKind) (b : List (Str × NameKind)) (c d : Bool) (e : List (Str × Const)) (_ : Scope.mk a b c d e = fScope (stAt PG0.main.body [13])) => Scope.mk a b c d e) _ _ _ _ _ rfl
noncomputable abbrev fb9 : List Stmt := (fun (a : Stmt) (b : List Stmt) (_ : a :: b = fBody (stAt PG0.main.body [15])) => a :: b) _ _ rfl
noncomputable abbrev fa9 : Arguments := (fun (a : List Arg) (b : List Arg) (c : Option Arg) (d : List Arg) (e : List (Option Expr)) (f : Option Arg) (g : List Expr) (_ : Arguments.mk a b c d e f g = fArgs (stAt PG0.main.body [15])) => Arguments.mk a b c d e f g) _ _ _ _ _ _ _ rfl
noncomputable abbrev fs9 : Scope := (fun (a : ScopeKind) (b : List (Str × NameKind)) (c d : Bool) (e : List (Str × Const)) (_ : Scope.mk a b c d e = fScope (stAt PG0.main.body [15])) => Scope.mk a b c d e) _ _ _ _ _ rfl
noncomputable abbrev fb10 : List Stmt := (fun (a : Stmt) (b : List Stmt) (_ : a :: b = fBody (stAt PG0.main.body [16])) => a :: b) _ _ rfl
noncomputable abbrev fa10 : Arguments := (fun (a : List Arg) (b : List Arg) (c : Option Arg) (d : List Arg) (e : List (Option Expr)) (f : Option Arg) (g : List Expr) (_ : Arguments.mk a b c d e f g = fArgs (stAt PG0.main.body [16])) => Arguments.mk a b c d e f g) _ _ _ _ _ _ _ rfl
noncomputable abbrev fs10 : Scope := (fun (a : ScopeKind) (b : List (Str × NameKind)) (c d : Bool) (e : List (Str × Const)) (_ : Scope.mk a b c d e = fScope (stAt PG0.main.body [16])) => Scope.mk a b c d e) _ _ _ _ _ rfl
noncomputable abbrev fb11 : List Stmt := (fun (a : Stmt) (b : List Stmt) (_ : a :: b = fBody (stAt PG0.main.body [17])) => a :: b) _ _ rfl
noncomputable abbrev fa11 : Arguments := (fun (a : List Arg) (b : List Arg) (c : Option Arg) (d : List Arg) (e : List (Option Expr)) (f : Option Arg) (g : List Expr) (_ : Arguments.mk a b c d e f g = fArgs (stAt PG0.main.body [17])) => Arguments.mk a b c d e f g) _ _ _ _ _ _ _ rfl
noncomputable abbrev fs11 : Scope := (fun (a : ScopeKind) (b : List (Str × NameKind)) (c d : Bool) (e : List (Str × Const)) (_ : Scope.mk a b c d e = fScope (stAt PG0.main.body [17])) => Scope.mk a b c d e) _ _ _ _ _ rfl
noncomputable abbrev fb12 : List Stmt := (fun (a : Stmt) (b : List Stmt) (_ : a :: b = fBody (stAt PG0.main.body [19, 0])) => a :: b) _ _ rfl
noncomputable abbrev fa12 : Arguments := (fun (a : List Arg) (b : List Arg) (c : Option Arg) (d : List Arg) (e : List (Option Expr)) (f : Option Arg) (g : List Expr) (_ : Arguments.mk a b c d e f g = fArgs (stAt PG0.main.body [19, 0])) => Arguments.mk a b c d e f g) _ _ _ _ _ _ _ rfl
noncomputable abbrev fs12 : Scope := (fun (a : ScopeKind) (b : List (Str × NameKind)) (c d : Bool) (e : List (Str × Const)) (_ : Scope.mk a b c d e = fScope (stAt PG0.main.body [19, 0])) => Scope.mk a b c d e) _ _ _ _ _ rfl
noncomputable abbrev fb13 : List Stmt := (fun (a : Stmt) (b : List Stmt) (_ : a :: b = fBody (stAt PG0.main.body [19, 1])) => a :: b) _ _ rfl
noncomputable abbrev fa13 : Arguments := (fun (a : List Arg) (b : List Arg) (c : Option Arg) (d : List Arg) (e : List (Option Expr)) (f : Option Arg) (g : List Expr) (_ : Arguments.mk a b c d e f g = fArgs (stAt PG0.main.body [19, 1])) => Arguments.mk a b c d e f g) _ _ _ _ _ _ _ rfl
noncomputable abbrev fs13 : Scope := (fun (a : ScopeKind) (b : List (Str × NameKind)) (c d : Bool) (e : List (Str × Const)) (_ : Scope.mk a b c d e = fScope (stAt PG0.main.body [19, 1])) => Scope.mk a b c d e) _ _ _ _ _ rfl
noncomputable abbrev fb14 : List Stmt := (fun (a : Stmt) (b : List Stmt) (_ : a :: b = fBody (stAt PG0.main.body [20])) => a :: b) _ _ rfl
noncomputable abbrev fa14 : Arguments := (fun (a : List Arg) (b : List Arg) (c : Option Arg) (d : List Arg) (e : List (Option Expr)) (f : Option Arg) (g : List Expr) (_ : Arguments.mk a b c d e f g = fArgs (stAt PG0.main.body [20])) => Arguments.mk a b c d e f g) _ _ _ _ _ _ _ rfl
noncomputable abbrev fs14 : Scope := (fun (a : ScopeKind) (b : List (Str × NameKind)) (c d : Bool) (e : List (Str × Const)) (_ : Scope.mk a b c d e = fScope (stAt PG0.main.body [20])) => Scope.mk a b c d e) _ _ _ _ _ rfl
noncomputable abbrev fb15 : List Stmt := (fun (a : Stmt) (b : List Stmt) (_ : a :: b = fBody (stAt PG0.main.body [22, 0])) => a :: b) _ _ rfl
noncomputable abbrev fa15 : Arguments := (fun (a : List Arg) (b : List Arg) (c : Option Arg) (d : List Arg) (e : List (Option Expr)) (f : Option Arg) (g : List Expr) (_ : Arguments.mk a b c d e f g = fArgs (stAt PG0.main.body [22, 0])) => Arguments.mk a b c d e f g) _ _ _ _ _ _ _ rfl
noncomputable abbrev fs15 : Scope := (fun (a : ScopeKind) (b : List (Str × NameKind)) (c d : Bool) (e : List (Str × Const)) (_ : Scope.mk a b c d e = fScope (stAt PG0.main.body [22, 0])) => Scope.mk a b c d e) _ _ _ _ _ rfl
noncomputable abbrev fb16 : List Stmt := (fun (a : Stmt) (b : List Stmt) (_ : a :: b = fBody (stAt PG0.main.body [22, 1])) => a :: b) _ _ rfl
noncomputable abbrev fa16 : Arguments := (fun (a : List Arg) (b : List Arg) (c : Option Arg) (d : List Arg) (e : List (Option Expr)) (f : Option Arg) (g : List Expr) (_ : Arguments.mk a b c d e f g = fArgs (stAt PG0.main.body [22, 1])) => Arguments.mk a b c d e f g) _ _ _ _ _ _ _ rfl
noncomputable abbrev fb17 : List Stmt := (fun (a : Stmt) (b : List Stmt) (_ : a :: b = fBody (stAt PG0.main.body [22, 2])) => a :: b) _ _ rfl
noncomputable abbrev fa17 : Arguments := (fun (a : List Arg) (b : List Arg) (c : Option Arg) (d : List Arg) (e : List (Option Expr)) (f : Option Arg) (g : List Expr) (_ : Arguments.mk a b c d e f g = fArgs (stAt PG0.main.body [22, 2])) => Arguments.mk a b c d e f g) _ _ _ _ _ _ _ rfl
noncomputable abbrev fs17 : Scope := (fun (a : ScopeKind) (b : List (Str × NameKind)) (c d : Bool) (e : List (Str × Const)) (_ : Scope.mk a b c d e = fScope (stAt PG0.main.body [22, 2])) => Scope.mk a b c d e) _ _ _ _ _ rfl
noncomputable abbrev fb18 : List Stmt := (fun (a : Stmt) (b : List Stmt) (_ : a :: b = fBody (stAt PG0.main.body [22, 3])) => a :: b) _ _ rfl
noncomputable abbrev fa18 : Arguments := (fun (a : List Arg) (b : List Arg) (c : Option Arg) (d : List Arg) (e : List (Option Expr)) (f : Option Arg) (g : List Expr) (_ : Arguments.mk a b c d e f g = fArgs (stAt PG0.main.body [22, 3])) => Arguments.mk a b c d e f g) _ _ _ _ _ _ _ rfl
noncomputable abbrev fb19 : List Stmt := (fun (a : Stmt) (b : List Stmt) (_ : a :: b = fBody (stAt PG0.main.body [22, 4])) => a :: b) _ _ rfl
noncomputable abbrev fa19 : Arguments := (fun (a : List Arg) (b : List Arg) (c : Option Arg) (d : List Arg) (e : List (Option Expr)) (f : Option Arg) (g : List Expr) (_ : Arguments.mk a b c d e f g = fArgs (stAt PG0.main.body [22, 4])) => Arguments.mk a b c d e f g) _ _ _ _ _ _ _ rfl
noncomputable abbrev fb20 : List Stmt := (fun (a : Stmt) (b : List Stmt) (_ : a :: b = fBody (stAt PG0.main.body [24, 0])) => a :: b) _ _ rfl
noncomputable abbrev fa20 : Arguments := (fun (a : List Arg) (b : List Arg) (c : Option Arg) (d : List Arg) (e : List (Option Expr)) (f : Option Arg) (g : List Expr) (_ : Arguments.mk a b c d e f g = fArgs (stAt PG0.main.body [24, 0])) => Arguments.mk a b c d e f g) _ _ _ _ _ _ _ rfl
noncomputable abbrev fs20 : Scope := (fun (a : ScopeKind) (b : List (Str × NameKind)) (c d : Bool) (e : List (Str × Const)) (_ : Scope.mk a b c d e = fScope (stAt PG0.main.body [24, 0])) => Scope.mk a b c d e) _ _ _ _ _ rfl
noncomputable abbrev fb21 : List Stmt := (fun (a : Stmt) (b : List Stmt) (_ : a :: b = fBody (stAt PG0.main.body [24, 1])) => a :: b) _ _ rfl
noncomputable abbrev fa21 : Arguments := (fun (a : List Arg) (b : List Arg) (c : Option Arg) (d : List Arg) (e : List (Option Expr)) (f : Option Arg) (g : List Expr) (_ : Arguments.mk a b c d e f g = fArgs (stAt PG0.main.body [24, 1])) => Arguments.mk a b c d e f g) _ _ _ _ _ _ _ rfl
noncomputable abbrev fs21 : Scope := (fun (a : ScopeKind) (b : List (Str × NameKind)) (c d : Bool) (e : List (Str × Const)) (_ : Scope.mk a b c d e = fScope (stAt PG0.main.body [24, 1])) => Scope.mk a b c d e) _ _ _ _ _ rfl
noncomputable abbrev fb22 : List Stmt := (fun (a : Stmt) (b : List Stmt) (_ : a :: b = fBody (stAt PG0.main.body [24, 2])) => a :: b) _ _ rfl
noncomputable abbrev fa22 : Arguments := (fun (a : List Arg) (b : List Arg) (c : Option Arg) (d : List Arg) (e : List (Option Expr)) (f : Option Arg) (g : List Expr) (_ : Arguments.mk a b c d e f g = fArgs (stAt PG0.main.body [24, 2])) => Arguments.mk a b c d e f g) _ _ _ _ _ _ _ rfl
noncomputable abbrev fs22 : Scope := (fun (a : ScopeKind) (b : List (Str × NameKind)) (c d : Bool) (e : List (Str × Const)) (_ : Scope.mk a b c d e = fScope (stAt PG0.main.body [24, 2])) => Scope.mk a b c d e) _ _ _ _ _ rfl
noncomputable abbrev fb23 : List Stmt := (fun (a : Stmt) (b : List Stmt) (_ : a :: b = fBody (stAt PG0.main.body [24, 3])) => a :: b) _ _ rfl
noncomputable abbrev fa23 : Arguments := (fun (a : List Arg) (b : List Arg) (c : Option Arg) (d : List Arg) (e : List (Option Expr)) (f : Option Arg) (g : List Expr) (_ : Arguments.mk a b c d e f g = fArgs (stAt PG0.main.body [24, 3])) => Arguments.mk a b c d e f g) _ _ _ _ _ _ _ rfl
noncomputable abbrev fb24 : List Stmt := (fun (a : Stmt) (b : List Stmt) (_ : a :: b = fBody (stAt PG0.main.body [24, 4])) => a :: b) _ _ rfl
noncomputable abbrev fa24 : Arguments := (fun (a : List Arg) (b : List Arg) (c : Option Arg) (d : List Arg) (e : List (Option Expr)) (f : Option Arg) (g : List Expr) (_ : Arguments.mk a b c d e f g = fArgs (stAt PG0.main.body [24, 4])) => Arguments.mk a b c d e f g) _ _ _ _ _ _ _ rfl
noncomputable abbrev fs24 : Scope := (fun (a : ScopeKind) (b : List (Str × NameKind)) (c d : Bool) (e : List (Str × Const)) (_ : Scope.mk a b c d e = fScope (stAt PG0.main.body [24, 4])) => Scope.mk a b c d e) _ _ _ _ _ rfl
noncomputable abbrev fb25 : List Stmt := (fun (a : Stmt) (b : List Stmt) (_ : a :: b = fBody (stAt PG0.main.body [24, 5])) => a :: b) _ _ rfl
noncomputable abbrev fa25 : Arguments := (fun (a : List Arg) (b : List Arg) (c : Option Arg) (d : List Arg) (e : List (Option Expr)) (f : Option Arg) (g : List Expr) (_ : Arguments.mk a b c d e f g = fArgs (stAt PG0.main.body [24, 5])) => Arguments.mk a b c d e f g) _ _ _ _ _ _ _ rfl
noncomputable abbrev fb26 : List Stmt := (fun (a : Stmt) (b : List Stmt) (_ : a :: b = fBody (stAt PG0.main.body [24, 6])) => a :: b) _ _ rfl
noncomputable abbrev fa26 : Arguments := (fun (a : List Arg) (b : List Arg) (c : Option Arg) (d : List Arg) (e : List (Option Expr)) (f : Option Arg) (g : List Expr) (_ : Arguments.mk a b c d e f g = fArgs (stAt PG0.main.body [24, 6])) => Arguments.mk a b c d e f g) _ _ _ _ _ _ _ rfl
noncomputable abbrev fb27 : List Stmt := (fun (a : Stmt) (b : List Stmt) (_ : a :: b = fBody (stAt PG0.main.body [25, 0])) => a :: b) _ _ rfl
noncomputable abbrev fa27 : Arguments := (fun (a : List Arg) (b : List Arg) (c : Option Arg) (d : List Arg) (e : List (Option Expr)) (f : Option Arg) (g : List Expr) (_ : Arguments.mk a b c d e f g = fArgs (stAt PG0.main.body [25, 0])) => Arguments.mk a b c d e f g) _ _ _ _ _ _ _ rfl
noncomputable abbrev fs27 : Scope := (fun (a : ScopeKind) (b : List (Str × NameKind)) (c d : Bool) (e : List (Str × Const)) (_ : Scope.mk a b c d e = fScope (stAt PG0.main.body [25, 0])) => Scope.mk a b c d e) _ _ _ _ _ rfl
noncomputable abbrev fb28 : List Stmt := (fun (a : Stmt) (b : List Stmt) (_ : a :: b = fBody (stAt PG0.main.body [25, 1])) => a :: b) _ _ rfl
noncomputable abbrev fa28 : Arguments := (fun (a : List Arg) (b : List Arg) (c : Option Arg) (d : List Arg) (e : List (Option Expr)) (f : Option Arg) (g : List Expr) (_ : Arguments.mk a b c d e f g = fArgs (stAt PG0.main.body [25, 1])) => Arguments.mk a b c d e f g) _ _ _ _ _ _ _ rfl
noncomputable abbrev fs28 : Scope := (fun (a : ScopeKind) (b : List (Str × NameKind)) (c d : Bool) (e : List (Str × Const)) (_ : Scope.mk a b c d e = fScope (stAt PG0.main.body [25, 1])) => Scope.mk a b c d e) _ _ _ _ _ rfl
noncomputable abbrev fb29 : List Stmt := (fun (a : Stmt) (b : List Stmt) (_ : a :: b = fBody (stAt PG0.main.body [25, 2])) => a :: b) _ _ rfl
noncomputable abbrev fa29 : Arguments := (fun (a : List Arg) (b : List Arg) (c : Option Arg) (d : List Arg) (e : List (Option Expr)) (f : Option Arg) (g : List Expr) (_ : Arguments.mk a b c d e f g = fArgs (stAt PG0.main.body [25, 2])) => Arguments.mk a b c d e f g) _ _ _ _ _ _ _ rfl
noncomputable abbrev fs29 : Scope := (fun (a : ScopeKind) (b : List (Str × NameKind)) (c d : Bool) (e : List (Str × Const)) (_ : Scope.mk a b c d e = fScope (stAt PG0.main.body [25, 2])) => Scope.mk a b c d e) _ _ _ _ _ rfl
noncomputable abbrev fb30 : List Stmt := (fun (a : Stmt) (b : List Stmt) (_ : a :: b = fBody (stAt PG0.main.body [25, 3])) => a :: b) _ _ rfl
noncomputable abbrev fa30 : Arguments := (fun (a : List Arg) (b : List Arg) (c : Option Arg) (d : List Arg) (e : List (Option Expr)) (f : Option Arg) (g : List Expr) (_ : Arguments.mk a b c d e f g = fArgs (stAt PG0.main.body [25, 3])) => Arguments.mk a b c d e f g) _ _ _ _ _ _ _ rfl
noncomputable abbrev fs30 : Scope := (fun (a : ScopeKind) (b : List (Str × NameKind)) (c d : Bool) (e : List (Str × Const)) (_ : Scope.mk a b c d e = fScope (stAt PG0.main.body [25, 3])) => Scope.mk a b c d e) _ _ _ _ _ rfl
noncomputable abbrev fb31 : List Stmt := (fun (a : Stmt) (b : List Stmt) (_ : a :: b = fBody (stAt PG0.main.body [25, 4])) => a :: b) _ _ rfl
noncomputable abbrev fa31 : Arguments := (fun (a : List Arg) (b : List Arg) (c : Option Arg) (d : List Arg) (e : List (Option Expr)) (f : Option Arg) (g : List Expr) (_ : Arguments.mk a b c d e f g = fArgs (stAt PG0.main.body [25, 4])) => Arguments.mk a b c d e f g) _ _ _ _ _ _ _ rfl
noncomputable abbrev fb32 : List Stmt := (fun (a : Stmt) (b : List Stmt) (_ : a :: b = fBody (stAt PG0.main.body [27])) => a :: b) _ _ rfl
noncomputable abbrev fa32 : Arguments := (fun (a : List Arg) (b : List Arg) (c : Option Arg) (d : List Arg) (e : List (Option Expr)) (f : Option Arg) (g : List Expr) (_ : Arguments.mk a b c d e f g = fArgs (stAt PG0.main.body [27])) => Arguments.mk a b c d e f g) _ _ _ _ _ _ _ rfl
noncomputable abbrev fs32 : Scope := (fun (a : ScopeKind) (b : List (Str × NameKind)) (c d : Bool) (e : List (Str × Const)) (_ : Scope.mk a b c d e = fScope (stAt PG0.main.body [27])) => Scope.mk a b c d e) _ _ _ _ _ rfl
noncomputable abbrev fb33 : List Stmt := (fun (a : Stmt) (b : List Stmt) (_ : a :: b = fBody (stAt PG0.main.body [28, 0])) => a :: b) _ _ rfl
noncomputable abbrev fa33 : Arguments := (fun (a : List Arg) (b : List Arg) (c : Option Arg) (d : List Arg) (e : List (Option Expr)) (f : Option Arg) (g : List Expr) (_ : Arguments.mk a b c d e f g = fArgs (stAt PG0.main.body [28, 0])) => Arguments.mk a b c d e f g) _ _ _ _ _ _ _ rfl
noncomputable abbrev fs33 : Scope := (fun (a : ScopeKind) (b : List (Str × NameKind)) (c d : Bool) (e : List (Str × Const)) (_ : Scope.mk a b c d e = fScope (stAt PG0.main.body [28, 0])) => Scope.mk a b c d e) _ _ _ _ _ rfl
noncomputable abbrev fb34 : List Stmt := (fun (a : Stmt) (b : List Stmt) (_ : a :: b = fBody (stAt PG0.main.body [28, 1])) => a :: b) _ _ rfl
noncomputable abbrev fa34 : Arguments := (fun (a : List Arg) (b : List Arg) (c : Option Arg) (d : List Arg) (e : List (Option Expr)) (f : Option Arg) (g : List Expr) (_ : Arguments.mk a b c d e f g = fArgs (stAt PG0.main.body [28, 1])) => Arguments.mk a b c d e f g) _ _ _ _ _ _ _ rfl
noncomputable abbrev fs34 : Scope := (fun (a : ScopeKind) (b : List (Str × NameKind)) (c d : Bool) (e : List (Str × Const)) (_ : Scope.mk a b c d e = fScope (stAt PG0.main.body [28, 1])) => Scope.mk a b c d e) _ _ _ _ _ rfl
noncomputable abbrev fb35 : List Stmt := (fun (a : Stmt) (b : List Stmt) (_ : a :: b = fBody (stAt PG0.main.body [28, 2])) => a :: b) _ _ rfl
noncomputable abbrev fa35 : Arguments := (fun (a : List Arg) (b : List Arg) (c : Option Arg) (d : List Arg) (e : List (Option Expr)) (f : Option Arg) (g : List Expr) (_ : Arguments.mk a b c d e f g = fArgs (stAt PG0.main.body [28, 2])) => Arguments.mk a b c d e f g) _ _ _ _ _ _ _ rfl
noncomputable abbrev fs35 : Scope := (fun (a : ScopeKind) (b : List (Str × NameKind)) (c d : Bool) (e : List (Str × Const)) (_ : Scope.mk a b c d e = fScope (stAt PG0.main.body [28, 2])) => Scope.mk a b c d e) _ _ _ _ _ rfl
noncomputable abbrev fb36 : List Stmt := (fun (a : Stmt) (b : List Stmt) (_ : a :: b = fBody (stAt PG0.main.body [28, 3])) => a :: b) _ _ rfl
noncomputable abbrev fa36 : Arguments := (fun (a : List Arg) (b : List Arg) (c : Option Arg) (d : List Arg) (e : List (Option Expr)) (f : Option Arg) (g : List Expr) (_ : Arguments.mk a b c d e f g = fArgs (stAt PG0.main.body [28, 3])) => Arguments.mk a b c d e f g) _ _ _ _ _ _ _ rfl
noncomputable abbrev fs36 : Scope := (fun (a : ScopeKind) (b : List (Str × NameKind)) (c d : Bool) (e : List (Str × Const)) (_ : Scope.mk a b c d e = fScope (stAt PG0.main.body [28, 3])) => Scope.mk a b c d e) _ _ _ _ _ rfl
noncomputable abbrev fb37 : List Stmt := (fun (a : Stmt) (b : List Stmt) (_ : a :: b = fBody (stAt PG0.main.body [28, 4])) => a :: b) _ _ rfl
noncomputable abbrev fa37 : Arguments := (fun (a : List Arg) (b : List Arg) (c : Option Arg) (d : List Arg) (e : List (Option Expr)) (f : Option Arg) (g : List Expr) (_ : Arguments.mk a b c d e f g = fArgs (stAt PG0.main.body [28, 4])) => Arguments.mk a b c d e f g) _ _ _ _ _ _ _ rfl
noncomputable abbrev fs37 : Scope := (fun (a : ScopeKind) (b : List (Str × NameKind)) (c d : Bool) (e : List (Str × Const)) (_ : Scope.mk a b c d e = fScope (stAt PG0.main.body [28, 4])) => Scope.mk a b c d e) _ _ _ _ _ rfl
noncomputable abbrev fb38 : List Stmt := (fun (a : Stmt) (b : List Stmt) (_ : a :: b = fBody (stAt PG0.main.body [30])) => a :: b) _ _ rfl
noncomputable abbrev fa38 : Arguments := (fun (a : List Arg) (b : List Arg) (c : Option Arg) (d : List Arg) (e : List (Option Expr)) (f : Option Arg) (g : List Expr) (_ : Arguments.mk a b c d e f g = fArgs (stAt PG0.main.body [30])) => Arguments.mk a b c d e f g) _ _ _ _ _ _ _ rfl
noncomputable abbrev fs38 : Scope := (fun (a : ScopeKind) (b : List (Str × NameKind)) (c d : Bool) (e : List (Str × Const)) (_ : Scope.mk a b c d e = fScope (stAt PG0.main.body [30])) => Scope.mk a b c d e) _ _ _ _ _ rfl
noncomputable abbrev fb39 : List Stmt := (fun (a : Stmt) (b : List Stmt) (_ : a :: b = fBody (stAt PG0.main.body [31])) => a :: b) _ _ rfl
noncomputable abbrev fa39 : Arguments := (fun (a : List Arg) (b : List Arg) (c : Option Arg) (d : List Arg) (e : List (Option Expr)) (f : Option Arg) (g : List Expr) (_ : Arguments.mk a b c d e f g = fArgs (stAt PG0.main.body [31])) => Arguments.mk a b c d e f g) _ _ _ _ _ _ _ rfl
noncomputable abbrev fs39 : Scope := (fun (a : ScopeKind) (b : List (Str × NameKind)) (c d : Bool) (e : List (Str × Const)) (_ : Scope.mk a b c d e = fScope (stAt PG0.main.body [31])) => Scope.mk a b c d e) _ _ _ _ _ rfl
noncomputable abbrev fb40 : List Stmt := (fun (a : Stmt) (b : List Stmt) (_ : a :: b = fBody (stAt PG0.main.body [32])) => a :: b) _ _ rfl
noncomputable abbrev fa40 : Arguments := (fun (a : List Arg) (b : List Arg) (c : Option Arg) (d : List Arg) (e : List (Option Expr)) (f : Option Arg) (g : List Expr) (_ : Arguments.mk a b c d e f g = fArgs (stAt PG0.main.body [32])) => Arguments.mk a b c d e f g) _ _ _ _ _ _ _ rfl
noncomputable abbrev fs40 : Scope := (fun (a : ScopeKind) (b : List (Str × NameKind)) (c d : Bool) (e : List (Str × Const)) (_ : Scope.mk a b c d e = fScope (stAt PG0.main.body [32])) => Scope.mk a b c d e) _ _ _ _ _ rfl
noncomputable abbrev fb41 : List Stmt := (fun (a : Stmt) (b : List Stmt) (_ : a :: b = fBody (stAt PG0.main.body [33])) => a :: b) _ _ rfl
noncomputable abbrev fa41 : Arguments := (fun (a : List Arg) (b : List Arg) (c : Option Arg) (d : List Arg) (e : List (Option Expr)) (f : Option Arg) (g : List Expr) (_ : Arguments.mk a b c d e f g = fArgs (stAt PG0.main.body [33])) => Arguments.mk a b c d e f g) _ _ _ _ _ _ _ rfl
noncomputable abbrev fs41 : Scope := (fun (a : ScopeKind) (b : List (Str × NameKind)) (c d : Bool) (e : List (Str × Const)) (_ : Scope.mk a b c d e = fScope (stAt PG0.main.body [33])) => Scope.mk a b c d e) _ _ _ _ _ rfl
noncomputable abbrev fb42 : List Stmt := (fun (a : Stmt) (b : List Stmt) (_ : a :: b = fBody (stAt PG0.main.body [34])) => a :: b) _ _ rfl
noncomputable abbrev fa42 : Arguments := (fun (a : List Arg) (b : List Arg) (c : Option Arg) (d : List Arg) (e : List (Option Expr)) (f : Option Arg) (g : List Expr) (_ : Arguments.mk a b c d e f g = fArgs (stAt PG0.main.body [34])) => Arguments.mk a b c d e f g) _ _ _ _ _ _ _ rfl
noncomputable abbrev fs42 : Scope := (fun (a : ScopeKind) (b : List (Str × NameKind)) (c d : Bool) (e : List (Str × Const)) (_ : Scope.mk a b c d e = fScope (stAt PG0.main.body [34])) => Scope.mk a b c d e) _ _ _ _ _ rfl
noncomputable abbrev fb43 : List Stmt := (fun (a : Stmt) (b : List Stmt) (_ : a :: b = fBody (stAt PG0.main.body [35])) => a :: b) _ _ rfl
noncomputable abbrev fa43 : Arguments := (fun (a : List Arg) (b : List Arg) (c : Option Arg) (d : List Arg) (e : List (Option Expr)) (f : Option Arg) (g : List Expr) (_ : Arguments.mk a b c d e f g = fArgs (stAt PG0.main.body [35])) => Arguments.mk a b c d e f g) _ _ _ _ _ _ _ rfl
noncomputable abbrev fs43 : Scope := (fun (a : ScopeKind) (b : List (Str × NameKind)) (c d : Bool) (e : List (Str × Const)) (_ : Scope.mk a b c d e = fScope (stAt PG0.main.body [35])) => Scope.mk a b c d e) _ _ _ _ _ rfl
noncomputable abbrev fb44 : List Stmt := (fun (a : Stmt) (b : List Stmt) (_ : a :: b = fBody (stAt PG0.main.body [36])) => a :: b) _ _ rfl
noncomputable abbrev fa44 : Arguments := (fun (a : List Arg) (b : List Arg) (c : Option Arg) (d : List Arg) (e : List (Option Expr)) (f : Option Arg) (g : List Expr) (_ : Arguments.mk a b c d e f g = fArgs (stAt PG0.main.body [36])) => Arguments.mk a b c d e f g) _ _ _ _ _ _ _ rfl
noncomputable abbrev fs44 : Scope := (fun (a : ScopeKind) (b : List (Str × NameKind)) (c d : Bool) (e : List (Str × Const)) (_ : Scope.mk a b c d e = fScope (stAt PG0.main.body [36])) => Scope.mk a b c d e) _ _ _ _ _ rfl
noncomputable abbrev fb45 : List Stmt := (fun (a : Stmt) (b : List Stmt) (_ : a :: b = fBody (stAt PG0.main.body [37])) => a :: b) _ _ rfl
noncomputable abbrev fa45 : Arguments := (fun (a : List Arg) (b : List Arg) (c : Option Arg) (d : List Arg) (e : List (Option Expr)) (f : Option Arg) (g : List Expr) (_ : Arguments.mk a b c d e f g = fArgs (stAt PG0.main.body [37])) => Arguments.mk a b c d e f g) _ _ _ _ _ _ _ rfl
noncomputable abbrev fs45 : Scope := (fun (a : ScopeKind) (b : List (Str × NameKind)) (c d : Bool) (e : List (Str × Const)) (_ : Scope.mk a b c d e = fScope (stAt PG0.main.body [37])) => Scope.mk a b c d e) _ _ _ _ _ rfl
noncomputable def KF (P : Params) : Frag :=
(nat_lit 2, ⟨.none, none, (.dict #[⟨(PyData.keyHash P "type.__subclasses__.Exception.0"), (.str "type.__subclasses__.Exception.0" 245), (.int 52 0)⟩, ⟨(PyData.keyHash P "type.__subclasses__.Exception.n"), (.str "type.__subclasses__.Exception.n" 246), (.int 1 0)⟩] 2), #[]⟩) ::
(nat_lit 3, ⟨(.type "dict"), none, (.dict #[⟨(PyData.keyHash P "__name__"), (.str "__name__" 165), (.str "law_xm0733_01" 697)⟩, ⟨(PyData.keyHash P "__doc__"), (.str "__doc__" 166), .none⟩, ⟨(PyData.keyHash P "__package__"), (.str "__package__" 167), .none⟩, ⟨(PyData.keyHash P "__loader__"), (.str "__loader__" 168), (.builtin "__main__.__loader__#opaque")⟩, ⟨(PyData.keyHash P "__spec__"), (.str "__spec__" 169), .none⟩, ⟨(PyData.keyHash P "__annotations__"), (.str "__annotations__" 170), (.ref 6)⟩, ⟨(PyData.keyHash P "__builtins__"), (.str "__builtins__" 171), (.ref 4)⟩, ⟨(PyData.keyHash P "__file__"), (.str "__file__" 173), (.str "/claim/cut.py" 172)⟩, ⟨(PyData.keyHash P "__cached__"), (.str "__cached__" 174), .none⟩, ⟨(PyData.keyHash P "_wall"), (.str "_wall" 193), (.ref 21)⟩, ⟨(PyData.keyHash P "touch"), (.str "touch" 204), (.ref 28)⟩, ⟨(PyData.keyHash P "shifted"), (.str "shifted" 217), (.ref 35)⟩, ⟨(PyData.keyHash P "MillError"), (.str "MillError" 248), (.ref 52)⟩, ⟨(PyData.keyHash P "HintFault"), (.str "HintFault" 264), (.ref 65)⟩, ⟨(PyData.keyHash P "ONE14"), (.str "ONE14" 268), (.int 16384 267)⟩, ⟨(PyData.keyHash P "wrap32"), (.str "wrap32" 275), (.ref 74)⟩, ⟨(PyData.keyHash P "signed16"), (.str "signed16" 282), (.ref 81)⟩, ⟨(PyData.keyHash P "whole_root"), (.str "whole_root" 290), (.ref 88)⟩, ⟨(PyData.keyHash P "unit_part"), (.str "unit_part" 299), (.ref 95)⟩, ⟨(PyData.keyHash P "unit"), (.str "unit" 308), (.ref 102)⟩, ⟨(PyData.keyHash P "axis_of"), (.str "axis_of" 317), (.ref 109)⟩, ⟨(PyData.keyHash P "do_axes"), (.str "do_axes" 326), (.ref 116)⟩, ⟨(PyData.keyHash P "do_from_stack"), (.str "do_from_stack" 337), (.ref 123)⟩, ⟨(PyData.keyHash P "Rounding"), (.str "Rounding" 379), (.ref 147)⟩, ⟨(PyData.keyHash P "named"), (.str "named" 390), (.ref 158)⟩, ⟨(PyData.keyHash P "GraphicsState"), (.str "GraphicsState" 469), (.ref 203)⟩, ⟨(PyData.keyHash P "HintStack"), (.str "HintStack" 545), (.ref 266)⟩, ⟨(PyData.keyHash P "HintWork"), (.str "HintWork" 623), (.ref 317)⟩, ⟨(PyData.keyHash P "held"), (.str "held" 632), (.ref 328)⟩, ⟨(PyData.keyHash P "Zone"), (.str "Zone" 696), (.ref 373)⟩, ⟨(PyData.keyHash P "_law_pool"), (.str "_law_pool" 707), (.ref 384)⟩, ⟨(PyData.keyHash P "_law_take"), (.str "_law_take" 716), (.ref 391)⟩, ⟨(PyData.keyHash P "_law_one"), (.str "_law_one" 724), (.ref 398)⟩, ⟨(PyData.keyHash P "_law_held"), (.str "_law_held" 732), (.ref 405)⟩, ⟨(PyData.keyHash P "_law_stands"), (.str "_law_stands" 742), (.ref 412)⟩, ⟨(PyData.keyHash P "_law_deeds_right"), (.str "_law_deeds_right" 748), (.ref 417)⟩, ⟨(PyData.keyHash P "_law_state"), (.str "_law_state" 756), (.ref 424)⟩, ⟨(PyData.keyHash P "law"), (.str "law" 762), (.ref 429)⟩] 38), #[]⟩) ::
(nat_lit 15, ⟨(.type "tuple"), none, (.seq #[] 0), #[]⟩) ::
(nat_lit 17, ⟨(.type "tuple"), none, (.seq #[(.str "k" 190)] 0), #[]⟩) ::
(nat_lit 18, ⟨(.type "tuple"), none, (.seq #[] 0), #[]⟩) ::
(nat_lit 20, ⟨(.type "code"), none, (.fields #[(.str "_wall" 187), (.str "_wall" 188), (.str "/claim/cut.py" 189), (.int 1 0), (.int 1 0), (.int 0 0), (.int 0 0), (.int 3 0), (.ref 15), (.bool true), (.int 181 0), (.ref 16), .none, (.ref 17), (.ref 18), (.ref 19), (.int 191 0), (.int 1 0), (.str "/claim/cut.py" 192)]), #[]⟩) ::
(nat_lit 21, ⟨(.type "function"), none, (.func ⟨"_wall", "_wall", fa0, (.stmts fb0), fs0, 3, [], .none, .none, .none, (.str "__main__" 164), none, (.ref 20), .none, 0⟩), #[]⟩) ::
(nat_lit 22, ⟨(.type "tuple"), none, (.seq #[] 0), #[]⟩) ::
(nat_lit 24, ⟨(.type "tuple"), none, (.seq #[(.str "state" 199), (.str "zone" 200), (.str "i" 201)] 0), #[]⟩) ::
(nat_lit 25, ⟨(.type "tuple"), none, (.seq #[] 0), #[]⟩) ::
(nat_lit 27, ⟨(.type "code"), none, (.fields #[(.str "touch" 196), (.str "touch" 197), (.str "/claim/cut.py" 198), (.int 5 0), (.int 3 0), (.int 0 0), (.int 0 0), (.int 3 0), (.ref 22), (.bool true), (.int 181 0), (.ref 23), .none, (.ref 24), (.ref 25), (.ref 26), (.int 202 0), (.int 5 0), (.str "/claim/cut.py" 203)]), #[]⟩) ::
(nat_lit 28, ⟨(.type "function"), none, (.func ⟨"touch", "touch", fa1, (.stmts fb1), fs1, 3, [], .none, .none, .none, (.str "outlinemill.hint_moves" 194), none, (.ref 27), .none, 0⟩), #[]⟩) ::
(nat_lit 29, ⟨(.type "tuple"), none, (.seq #[] 0), #[]⟩) ::
(nat_lit 31, ⟨(.type "tuple"), none, (.seq #[(.str "state" 208), (.str "zone" 209), (.str "i" 210), (.str "step" 211), (.str "is_touching" 212), (.str "x" 213), (.str "y" 214)] 0), #[]⟩) ::
(nat_lit 32, ⟨(.type "tuple"), none, (.seq #[] 0), #[]⟩) ::
(nat_lit 34, ⟨(.type "code"), none, (.fields #[(.str "shifted" 205), (.str "shifted" 206), (.str "/claim/cut.py" 207), (.int 10 0), (.int 5 0), (.int 0 0), (.int 0 0), (.int 3 0), (.ref 29), (.bool true), (.int 181 0), (.ref 30), .none, (.ref 31), (.ref 32), (.ref 33), (.int 215 0), (.int 10 0), (.str "/claim/cut.py" 216)]), #[]⟩) ::
(nat_lit 35, ⟨(.type "function"), none, (.func ⟨"shifted", "shifted", fa2, (.stmts fb2), fs2, 3, [], .none, .none, .none, (.str "outlinemill.hint_moves" 194), none, (.ref 34), .none, 0⟩), #[]⟩) ::
(nat_lit 36, ⟨(.type "tuple"), none, (.seq #[(.type "Exception")] 0), #[]⟩) ::
(nat_lit 43, ⟨(.type "tuple"), none, (.seq #[] 0), #[]⟩) ::
(nat_lit 45, ⟨(.type "tuple"), none, (.seq #[(.str "self" 235), (.str "message" 236)] 0), #[]⟩) ::
(nat_lit 46, ⟨(.type "tuple"), none, (.seq #[] 0), #[]⟩) ::
(nat_lit 48, ⟨(.type "code"), none, (.fields #[(.str "__init__" 232), (.str "MillError.__init__" 233), (.str "/claim/cut.py" 234), (.int 22 0), (.int 2 0), (.int 0 0), (.int 0 0), (.int 3 0), (.ref 43), (.bool true), (.int 181 0), (.ref 44), .none, (.ref 45), (.ref 46), (.ref 47), (.int 237 0), (.int 22 0), (.str "/claim/cut.py" 238)]), #[]⟩) ::
(nat_lit 49, ⟨(.type "function"), none, (.func ⟨"__init__", "MillError.__init__", fa3, (.stmts fb3), fs3, 3, [], .none, .none, .none, (.str "outlinemill.errors" 218), none, (.ref 48), .none, 0⟩), #[]⟩) ::
(nat_lit 50, ⟨(.type "tuple"), none, (.seq #[(.str "message" 240)] 0), #[]⟩) ::
(nat_lit 51, ⟨(.type "dict"), none, (.dict #[⟨(PyData.keyHash P "__module__"), (.str "__module__" 227), (.str "outlinemill.errors" 218)⟩, ⟨(PyData.keyHash P "__firstlineno__"), (.str "__firstlineno__" 231), (.int 20 230)⟩, ⟨(PyData.keyHash P "__init__"), (.str "__init__" 239), (.ref 49)⟩, ⟨(PyData.keyHash P "__static_attributes__"), (.str "__static_attributes__" 241), (.ref 50)⟩, ⟨(PyData.keyHash P "__weakref__"), (.str "__weakref__" 243), (.ref 53)⟩, ⟨(PyData.keyHash P "__doc__"), (.str "__doc__" 244), .none⟩] 3), #[]⟩) ::
(nat_lit 52, ⟨(.type "type"), none, (.cls ⟨"MillError", [(.type "Exception")], [(.ref 52), (.type "Exception"), (.type "BaseException"), (.type "object")], 51, "MillError", true, [], [(.ref 65)], false, none, false⟩), #[(some (.ref 36)), none, (some (.str "MillError" 220)), (some (.str "MillError" 228)), (some (.builtin "Exception.__new__")), (some (.bool true))]⟩) ::
(nat_lit 53, ⟨(.type "getset_descriptor"), none, (.fields #[(.str "__weakref__" 242), (.ref 52), (.builtin "ExceptionGroup.__weakref__"), .none]), #[]⟩) ::
(nat_lit 56, ⟨(.type "tuple"), none, (.seq #[(.ref 52)] 0), #[]⟩) ::
(nat_lit 63, ⟨(.type "tuple"), none, (.seq #[] 0), #[]⟩) ::
(nat_lit 64, ⟨(.type "dict"), none, (.dict #[⟨(PyData.keyHash P "__module__"), (.str "__module__" 256), (.str "outlinemill.errors" 218)⟩, ⟨(PyData.keyHash P "__firstlineno__"), (.str "__firstlineno__" 260), (.int 24 259)⟩, ⟨(PyData.keyHash P "__static_attributes__"), (.str "__static_attributes__" 261), (.ref 63)⟩, ⟨(PyData.keyHash P "__doc__"), (.str "__doc__" 262), .none⟩] 2), #[]⟩) ::
(nat_lit 65, ⟨(.type "type"), none, (.cls ⟨"HintFault", [(.ref 52)], [(.ref 65), (.ref 52), (.type "Exception"), (.type "BaseException"), (.type "object")], 64, "HintFault", true, [], [], false, none, false⟩), #[(some (.ref 56)), none, (some (.str "HintFault" 249)), (some (.str "HintFault" 257)), (some (.builtin "Exception.__new__")), (some (.bool true))]⟩) ::
(nat_lit 68, ⟨(.type "tuple"), none, (.seq #[] 0), #[]⟩) ::
(nat_lit 70, ⟨(.type "tuple"), none, (.seq #[(.str "n" 272)] 0), #[]⟩) ::
(nat_lit 71, ⟨(.type "tuple"), none, (.seq #[] 0), #[]⟩) ::
(nat_lit 73, ⟨(.type "code"), none, (.fields #[(.str "wrap32" 269), (.str "wrap32" 270), (.str "/claim/cut.py" 271), (.int 28 0), (.int 1 0), (.int 0 0), (.int 0 0), (.int 3 0), (.ref 68), (.bool true), (.int 181 0), (.ref 69), .none, (.ref 70), (.ref 71), (.ref 72), (.int 273 0), (.int 28 0), (.str "/claim/cut.py" 274)]), #[]⟩) ::
(nat_lit 74, ⟨(.type "function"), none, (.func ⟨"wrap32", "wrap32", fa4, (.stmts fb4), fs4, 3, [], .none, .none, .none, (.str "outlinemill.hint_numbers" 265), none, (.ref 73), .none, 0⟩), #[]⟩) ::
(nat_lit 75, ⟨(.type "tuple"), none, (.seq #[] 0), #[]⟩) ::
(nat_lit 77, ⟨(.type "tuple"), none, (.seq #[(.str "n" 279)] 0), #[]⟩) ::
(nat_lit 78, ⟨(.type "tuple"), none, (.seq #[] 0), #[]⟩) ::
(nat_lit 80, ⟨(.type "code"), none, (.fields #[(.str "signed16" 276), (.str "signed16" 277), (.str "/claim/cut.py" 278), (.int 30 0), (.int 1 0), (.int 0 0), (.int 0 0), (.int 3 0), (.ref 75), (.bool true), (.int 181 0), (.ref 76), .none, (.ref 77), (.ref 78), (.ref 79), (.int 280 0), (.int 30 0), (.str "/claim/cut.py" 281)]), #[]⟩) ::
(nat_lit 81, ⟨(.type "function"), none, (.func ⟨"signed16", "signed16", fa5, (.stmts fb5), fs4, 3, [], .none, .none, .none, (.str "outlinemill.hint_numbers" 265), none, (.ref 80), .none, 0⟩), #[]⟩) ::
(nat_lit 82, ⟨(.type "tuple"), none, (.seq #[] 0), #[]⟩) ::
(nat_lit 84, ⟨(.type "tuple"), none, (.seq #[(.str "n" 286), (.str "found" 287)] 0), #[]⟩) ::
(nat_lit 85, ⟨(.type "tuple"), none, (.seq #[] 0), #[]⟩) ::
(nat_lit 87, ⟨(.type "code"), none, (.fields #[(.str "whole_root" 283), (.str "whole_root" 284), (.str "/claim/cut.py" 285), (.int 32 0), (.int 1 0), (.int 0 0), (.int 0 0), (.int 3 0), (.ref 82), (.bool true), (.int 181 0), (.ref 83), .none, (.ref 84), (.ref 85), (.ref 86), (.int 288 0), (.int 32 0), (.str "/claim/cut.py" 289)]), #[]⟩) ::
(nat_lit 88, ⟨(.type "function"), none, (.func ⟨"whole_root", "whole_root", fa6, (.stmts fb6), fs6, 3, [], .none, .none, .none, (.str "outlinemill.hint_numbers" 265), none, (.ref 87), .none, 0⟩), #[]⟩) ::
(nat_lit 89, ⟨(.type "tuple"), none, (.seq #[] 0), #[]⟩) ::
(nat_lit 91, ⟨(.type "tuple"), none, (.seq #[(.str "x" 294), (.str "square" 295), (.str "size" 296)] 0), #[]⟩) ::
(nat_lit 92, ⟨(.type "tuple"), none, (.seq #[] 0), #[]⟩) ::
(nat_lit 94, ⟨(.type "code"), none, (.fields #[(.str "unit_part" 291), (.str "unit_part" 292), (.str "/claim/cut.py" 293), (.int 39 0), (.int 2 0), (.int 0 0), (.int 0 0), (.int 3 0), (.ref 89), (.bool true), (.int 181 0), (.ref 90), .none, (.ref 91), (.ref 92), (.ref 93), (.int 297 0), (.int 39 0), (.str "/claim/cut.py" 298)]), #[]⟩) ::
(nat_lit 95, ⟨(.type "function"), none, (.func ⟨"unit_part", "unit_part", fa7, (.stmts fb7), fs7, 3, [], .none, .none, .none, (.str "outlinemill.hint_numbers" 265), none, (.ref 94), .none, 0⟩), #[]⟩) ::
(nat_lit 96, ⟨(.type "tuple"), none, (.seq #[] 0), #[]⟩) ::
(nat_lit 98, ⟨(.type "tuple"), none, (.seq #[(.str "x" 303), (.str "y" 304), (.str "square" 305)] 0), #[]⟩) ::
(nat_lit 99, ⟨(.type "tuple"), none, (.seq #[] 0), #[]⟩) ::
(nat_lit 101, ⟨(.type "code"), none, (.fields #[(.str "unit" 300), (.str "unit" 301), (.str "/claim/cut.py" 302), (.int 42 0), (.int 2 0), (.int 0 0), (.int 0 0), (.int 3 0), (.ref 96), (.bool true), (.int 181 0), (.ref 97), .none, (.ref 98), (.ref 99), (.ref 100), (.int 306 0), (.int 42 0), (.str "/claim/cut.py" 307)]), #[]⟩) ::
(nat_lit 102, ⟨(.type "function"), none, (.func ⟨"unit", "unit", fa8, (.stmts fb8), fs8, 3, [], .none, .none, .none, (.str "outlinemill.hint_numbers" 265), none, (.ref 101), .none, 0⟩), #[]⟩) ::
(nat_lit 103, ⟨(.type "tuple"), none, (.seq #[] 0), #[]⟩) ::
(nat_lit 105, ⟨(.type "tuple"), none, (.seq #[(.str "code" 314)] 0), #[]⟩) ::
(nat_lit 106, ⟨(.type "tuple"), none, (.seq #[] 0), #[]⟩) ::
(nat_lit 108, ⟨(.type "code"), none, (.fields #[(.str "axis_of" 311), (.str "axis_of" 312), (.str "/claim/cut.py" 313), (.int 48 0), (.int 1 0), (.int 0 0), (.int 0 0), (.int 3 0), (.ref 103), (.bool true), (.int 181 0), (.ref 104), .none, (.ref 105), (.ref 106), (.ref 107), (.int 315 0), (.int 48 0), (.str "/claim/cut.py" 316)]), #[]⟩) ::
(nat_lit 109, ⟨(.type "function"), none, (.func ⟨"axis_of", "axis_of", fa9, (.stmts fb9), fs9, 3, [], .none, .none, .none, (.str "outlinemill.hint_vectors" 309), none, (.ref 108), .none, 0⟩), #[]⟩) ::
(nat_lit 110, ⟨(.type "tuple"), none, (.seq #[] 0), #[]⟩) ::
(nat_lit 112, ⟨(.type "tuple"), none, (.seq #[(.str "work" 321), (.str "code" 322), (.str "state" 323)] 0), #[]⟩) ::
(nat_lit 113, ⟨(.type "tuple"), none, (.seq #[] 0), #[]⟩) ::
(nat_lit 115, ⟨(.type "code"), none, (.fields #[(.str "do_axes" 318), (.str "do_axes" 319), (.str "/claim/cut.py" 320), (.int 50 0), (.int 2 0), (.int 0 0), (.int 0 0), (.int 3 0), (.ref 110), (.bool true), (.int 181 0), (.ref 111), .none, (.ref 112), (.ref 113), (.ref 114), (.int 324 0), (.int 50 0), (.str "/claim/cut.py" 325)]), #[]⟩) ::
(nat_lit 116, ⟨(.type "function"), none, (.func ⟨"do_axes", "do_axes", fa10, (.stmts fb10), fs10, 3, [], .none, .none, .none, (.str "outlinemill.hint_vectors" 309), none, (.ref 115), .none, 0⟩), #[]⟩) ::
(nat_lit 117, ⟨(.type "tuple"), none, (.seq #[] 0), #[]⟩) ::
(nat_lit 119, ⟨(.type "tuple"), none, (.seq #[(.str "work" 330), (.str "code" 331), (.str "y" 332), (.str "x" 333), (.str "vector" 334)] 0), #[]⟩) ::
(nat_lit 120, ⟨(.type "tuple"), none, (.seq #[] 0), #[]⟩) ::
(nat_lit 122, ⟨(.type "code"), none, (.fields #[(.str "do_from_stack" 327), (.str "do_from_stack" 328), (.str "/claim/cut.py" 329), (.int 57 0), (.int 2 0), (.int 0 0), (.int 0 0), (.int 3 0), (.ref 117), (.bool true), (.int 181 0), (.ref 118), .none, (.ref 119), (.ref 120), (.ref 121), (.int 335 0), (.int 57 0), (.str "/claim/cut.py" 336)]), #[]⟩) ::
(nat_lit 123, ⟨(.type "function"), none, (.func ⟨"do_from_stack", "do_from_stack", fa11, (.stmts fb11), fs11, 3, [], .none, .none, .none, (.str "outlinemill.hint_vectors" 309), none, (.ref 122), .none, 0⟩), #[]⟩) ::
(nat_lit 131, ⟨(.type "tuple"), none, (.seq #[] 0), #[]⟩) ::
(nat_lit 133, ⟨(.type "tuple"), none, (.seq #[(.str "self" 355), (.str "period" 356), (.str "phase" 357), (.str "threshold" 358)] 0), #[]⟩) ::
(nat_lit 134, ⟨(.type "tuple"), none, (.seq #[] 0), #[]⟩) ::
(nat_lit 136, ⟨(.type "code"), none, (.fields #[(.str "__init__" 352), (.str "Rounding.__init__" 353), (.str "/claim/cut.py" 354), (.int 68 0), (.int 4 0), (.int 0 0), (.int 0 0), (.int 3 0), (.ref 131), (.bool true), (.int 181 0), (.ref 132), .none, (.ref 133), (.ref 134), (.ref 135), (.int 359 0), (.int 68 0), (.str "/claim/cut.py" 360)]), #[]⟩) ::
(nat_lit 137, ⟨(.type "function"), none, (.func ⟨"__init__", "Rounding.__init__", fa12, (.stmts fb12), fs12, 3, [], .none, .none, .none, (.str "outlinemill.hint_rounds" 338), none, (.ref 136), .none, 0⟩), #[]⟩) ::
(nat_lit 138, ⟨(.type "tuple"), none, (.seq #[] 0), #[]⟩) ::
(nat_lit 140, ⟨(.type "tuple"), none, (.seq #[(.str "self" 365)] 0), #[]⟩) ::
(nat_lit 141, ⟨(.type "tuple"), none, (.seq #[] 0), #[]⟩) ::
(nat_lit 143, ⟨(.type "code"), none, (.fields #[(.str "row" 362), (.str "Rounding.row" 363), (.str "/claim/cut.py" 364), (.int 73 0), (.int 1 0), (.int 0 0), (.int 0 0), (.int 3 0), (.ref 138), (.bool true), (.int 181 0), (.ref 139), .none, (.ref 140), (.ref 141), (.ref 142), (.int 366 0), (.int 73 0), (.str "/claim/cut.py" 367)]), #[]⟩) ::
(nat_lit 144, ⟨(.type "function"), none, (.func ⟨"row", "Rounding.row", fa13, (.stmts fb13), fs13, 3, [], .none, .none, .none, (.str "outlinemill.hint_rounds" 338), none, (.ref 143), .none, 0⟩), #[]⟩) ::
(nat_lit 145, ⟨(.type "tuple"), none, (.seq #[(.str "period" 369), (.str "phase" 370), (.str "threshold" 371)] 0), #[]⟩) ::
(nat_lit 146, ⟨(.type "dict"), none, (.dict #[⟨(PyData.keyHash P "__module__"), (.str "__module__" 347), (.str "outlinemill.hint_rounds" 338)⟩, ⟨(PyData.keyHash P "__firstlineno__"), (.str "__firstlineno__" 351), (.int 66 350)⟩, ⟨(PyData.keyHash P "__init__"), (.str "__init__" 361), (.ref 137)⟩, ⟨(PyData.keyHash P "row"), (.str "row" 368), (.ref 144)⟩, ⟨(PyData.keyHash P "__static_attributes__"), (.str "__static_attributes__" 372), (.ref 145)⟩, ⟨(PyData.keyHash P "__dict__"), (.str "__dict__" 374), (.ref 148)⟩, ⟨(PyData.keyHash P "__weakref__"), (.str "__weakref__" 376), (.ref 149)⟩, ⟨(PyData.keyHash P "__doc__"), (.str "__doc__" 377), .none⟩] 4), #[]⟩) ::
(nat_lit 147, ⟨(.type "type"), none, (.cls ⟨"Rounding", [(.type "object")], [(.ref 147), (.type "object")], 146, "Rounding", true, [], [], false, none, false⟩), #[none, none, (some (.str "Rounding" 340)), (some (.str "Rounding" 348)), (some (.builtin "object.__new__")), (some (.bool true))]⟩) ::
(nat_lit 148, ⟨(.type "getset_descriptor"), none, (.fields #[(.str "__dict__" 373), (.ref 147), (.builtin "function.__dict__"), (.builtin "function.__dict__#set")]), #[]⟩) ::
(nat_lit 149, ⟨(.type "getset_descriptor"), none, (.fields #[(.str "__weakref__" 375), (.ref 147), (.builtin "ExceptionGroup.__weakref__"), .none]), #[]⟩) ::
(nat_lit 152, ⟨(.type "tuple"), none, (.seq #[] 0), #[]⟩) ::
(nat_lit 154, ⟨(.type "tuple"), none, (.seq #[(.str "word" 383), (.str "rows" 384), (.str "period" 385), (.str "phase" 386), (.str "threshold" 387)] 0), #[]⟩) ::
(nat_lit 155, ⟨(.type "tuple"), none, (.seq #[] 0), #[]⟩) ::
(nat_lit 157, ⟨(.type "code"), none, (.fields #[(.str "named" 380), (.str "named" 381), (.str "/claim/cut.py" 382), (.int 75 0), (.int 1 0), (.int 0 0), (.int 0 0), (.int 3 0), (.ref 152), (.bool true), (.int 181 0), (.ref 153), .none, (.ref 154), (.ref 155), (.ref 156), (.int 388 0), (.int 75 0), (.str "/claim/cut.py" 389)]), #[]⟩) ::
(nat_lit 158, ⟨(.type "function"), none, (.func ⟨"named", "named", fa14, (.stmts fb14), fs14, 3, [], .none, .none, .none, (.str "outlinemill.hint_rounds" 338), none, (.ref 157), .none, 0⟩), #[]⟩) ::
(nat_lit 166, ⟨(.type "tuple"), none, (.seq #[] 0), #[]⟩) ::
(nat_lit 168, ⟨(.type "tuple"), none, (.seq #[(.str "self" 408)] 0), #[]⟩) ::
(nat_lit 169, ⟨(.type "tuple"), none, (.seq #[] 0), #[]⟩) ::
(nat_lit 171, ⟨(.type "code"), none, (.fields #[(.str "__init__" 405), (.str "GraphicsState.__init__" 406), (.str "/claim/cut.py" 407), (.int 84 0), (.int 1 0), (.int 0 0), (.int 0 0), (.int 3 0), (.ref 166), (.bool true), (.int 181 0), (.ref 167), .none, (.ref 168), (.ref 169), (.ref 170), (.int 409 0), (.int 84 0), (.str "/claim/cut.py" 410)]), #[]⟩) ::
(nat_lit 172, ⟨(.type "function"), none, (.func ⟨"__init__", "GraphicsState.__init__", fa15, (.stmts fb15), fs15, 3, [], .none, .none, .none, (.str "outlinemill.hint_state" 391), none, (.ref 171), .none, 0⟩), #[]⟩) ::
(nat_lit 173, ⟨(.type "tuple"), none, (.seq #[] 0), #[]⟩) ::
(nat_lit 175, ⟨(.type "tuple"), none, (.seq #[(.str "self" 415)] 0), #[]⟩) ::
(nat_lit 176, ⟨(.type "tuple"), none, (.seq #[] 0), #[]⟩) ::
(nat_lit 178, ⟨(.type "code"), none, (.fields #[(.str "free_dot" 412), (.str "GraphicsState.free_dot" 413), (.str "/claim/cut.py" 414), (.int 104 0), (.int 1 0), (.int 0 0), (.int 0 0), (.int 3 0), (.ref 173), (.bool true), (.int 181 0), (.ref 174), .none, (.ref 175), (.ref 176), (.ref 177), (.int 416 0), (.int 104 0), (.str "/claim/cut.py" 417)]), #[]⟩) ::
(nat_lit 179, ⟨(.type "function"), none, (.func ⟨"free_dot", "GraphicsState.free_dot", fa16, (.stmts fb16), fs13, 3, [], .none, .none, .none, (.str "outlinemill.hint_state" 391), none, (.ref 178), .none, 0⟩), #[]⟩) ::
(nat_lit 180, ⟨(.type "tuple"), none, (.seq #[] 0), #[]⟩) ::
(nat_lit 182, ⟨(.type "tuple"), none, (.seq #[(.str "self" 422), (.str "dx" 423), (.str "dy" 424)] 0), #[]⟩) ::
(nat_lit 183, ⟨(.type "tuple"), none, (.seq #[] 0), #[]⟩) ::
(nat_lit 185, ⟨(.type "code"), none, (.fields #[(.str "projected" 419), (.str "GraphicsState.projected" 420), (.str "/claim/cut.py" 421), (.int 107 0), (.int 3 0), (.int 0 0), (.int 0 0), (.int 3 0), (.ref 180), (.bool true), (.int 181 0), (.ref 181), .none, (.ref 182), (.ref 183), (.ref 184), (.int 425 0), (.int 107 0), (.str "/claim/cut.py" 426)]), #[]⟩) ::
(nat_lit 186, ⟨(.type "function"), none, (.func ⟨"projected", "GraphicsState.projected", fa17, (.stmts fb17), fs17, 3, [], .none, .none, .none, (.str "outlinemill.hint_state" 391), none, (.ref 185), .none, 0⟩), #[]⟩) ::
(nat_lit 187, ⟨(.type "tuple"), none, (.seq #[] 0), #[]⟩) ::
(nat_lit 189, ⟨(.type "tuple"), none, (.seq #[(.str "self" 431), (.str "dx" 432), (.str "dy" 433)] 0), #[]⟩) ::
(nat_lit 190, ⟨(.type "tuple"), none, (.seq #[] 0), #[]⟩) ::
(nat_lit 192, ⟨(.type "code"), none, (.fields #[(.str "dual_projected" 428), (.str "GraphicsState.dual_projected" 429), (.str "/claim/cut.py" 430), (.int 110 0), (.int 3 0), (.int 0 0), (.int 0 0), (.int 3 0), (.ref 187), (.bool true), (.int 181 0), (.ref 188), .none, (.ref 189), (.ref 190), (.ref 191), (.int 434 0), (.int 110 0), (.str "/claim/cut.py" 435)]), #[]⟩) ::
(nat_lit 193, ⟨(.type "function"), none, (.func ⟨"dual_projected", "GraphicsState.dual_projected", fa18, (.stmts fb18), fs17, 3, [], .none, .none, .none, (.str "outlinemill.hint_state" 391), none, (.ref 192), .none, 0⟩), #[]⟩) ::
(nat_lit 194, ⟨(.type "tuple"), none, (.seq #[] 0), #[]⟩) ::
(nat_lit 196, ⟨(.type "tuple"), none, (.seq #[(.str "self" 440)] 0), #[]⟩) ::
(nat_lit 197, ⟨(.type "tuple"), none, (.seq #[] 0), #[]⟩) ::
(nat_lit 199, ⟨(.type "code"), none, (.fields #[(.str "row" 437), (.str "GraphicsState.row" 438), (.str "/claim/cut.py" 439), (.int 113 0), (.int 1 0), (.int 0 0), (.int 0 0), (.int 3 0), (.ref 194), (.bool true), (.int 181 0), (.ref 195), .none, (.ref 196), (.ref 197), (.ref 198), (.int 441 0), (.int 113 0), (.str "/claim/cut.py" 442)]), #[]⟩) ::
(nat_lit 200, ⟨(.type "function"), none, (.func ⟨"row", "GraphicsState.row", fa19, (.stmts fb19), fs13, 3, [], .none, .none, .none, (.str "outlinemill.hint_state" 391), none, (.ref 199), .none, 0⟩), #[]⟩) ::
(nat_lit 201, ⟨(.type "tuple"), none, (.seq #[(.str "auto_flip" 444), (.str "cut_in" 445), (.str "delta_base" 446), (.str "delta_shift" 447), (.str "dual" 448), (.str "freedom" 449), (.str "loop" 450), (.str "minimum" 451), (.str "projection" 452), (.str "rounding" 453), (.str "rp0" 454), (.str "rp1" 455), (.str "rp2" 456), (.str "single_cut_in" 457), (.str "single_width" 458), (.str "zp0" 459), (.str "zp1" 460), (.str "zp2" 461)] 0), #[]⟩) ::
(nat_lit 202, ⟨(.type "dict"), none, (.dict #[⟨(PyData.keyHash P "__module__"), (.str "__module__" 400), (.str "outlinemill.hint_state" 391)⟩, ⟨(PyData.keyHash P "__firstlineno__"), (.str "__firstlineno__" 404), (.int 82 403)⟩, ⟨(PyData.keyHash P "__init__"), (.str "__init__" 411), (.ref 172)⟩, ⟨(PyData.keyHash P "free_dot"), (.str "free_dot" 418), (.ref 179)⟩, ⟨(PyData.keyHash P "projected"), (.str "projected" 427), (.ref 186)⟩, ⟨(PyData.keyHash P "dual_projected"), (.str "dual_projected" 436), (.ref 193)⟩, ⟨(PyData.keyHash P "row"), (.str "row" 443), (.ref 200)⟩, ⟨(PyData.keyHash P "__static_attributes__"), (.str "__static_attributes__" 462), (.ref 201)⟩, ⟨(PyData.keyHash P "__dict__"), (.str "__dict__" 464), (.ref 204)⟩, ⟨(PyData.keyHash P "__weakref__"), (.str "__weakref__" 466), (.ref 205)⟩, ⟨(PyData.keyHash P "__doc__"), (.str "__doc__" 467), .none⟩] 4), #[]⟩) ::
(nat_lit 203, ⟨(.type "type"), none, (.cls ⟨"GraphicsState", [(.type "object")], [(.ref 203), (.type "object")], 202, "GraphicsState", true, [], [], false, none, false⟩), #[none, none, (some (.str "GraphicsState" 393)), (some (.str "GraphicsState" 401)), (some (.builtin "object.__new__")), (some (.bool true))]⟩) ::
(nat_lit 204, ⟨(.type "getset_descriptor"), none, (.fields #[(.str "__dict__" 463), (.ref 203), (.builtin "function.__dict__"), (.builtin "function.__dict__#set")]), #[]⟩) ::
(nat_lit 205, ⟨(.type "getset_descriptor"), none, (.fields #[(.str "__weakref__" 465), (.ref 203), (.builtin "ExceptionGroup.__weakref__"), .none]), #[]⟩) ::
(nat_lit 215, ⟨(.type "tuple"), none, (.seq #[] 0), #[]⟩) ::
(nat_lit 217, ⟨(.type "tuple"), none, (.seq #[(.str "self" 487), (.str "most" 488)] 0), #[]⟩) ::
(nat_lit 218, ⟨(.type "tuple"), none, (.seq #[] 0), #[]⟩) ::
(nat_lit 220, ⟨(.type "code"), none, (.fields #[(.str "__init__" 484), (.str "HintStack.__init__" 485), (.str "/claim/cut.py" 486), (.int 118 0), (.int 2 0), (.int 0 0), (.int 0 0), (.int 3 0), (.ref 215), (.bool true), (.int 181 0), (.ref 216), .none, (.ref 217), (.ref 218), (.ref 219), (.int 489 0), (.int 118 0), (.str "/claim/cut.py" 490)]), #[]⟩) ::
(nat_lit 221, ⟨(.type "function"), none, (.func ⟨"__init__", "HintStack.__init__", fa20, (.stmts fb20), fs20, 3, [], .none, .none, .none, (.str "outlinemill.hint_work" 470), none, (.ref 220), .none, 0⟩), #[]⟩) ::
(nat_lit 222, ⟨(.type "tuple"), none, (.seq #[] 0), #[]⟩) ::
(nat_lit 224, ⟨(.type "tuple"), none, (.seq #[(.str "self" 495), (.str "number" 496)] 0), #[]⟩) ::
(nat_lit 225, ⟨(.type "tuple"), none, (.seq #[] 0), #[]⟩) ::
(nat_lit 227, ⟨(.type "code"), none, (.fields #[(.str "push" 492), (.str "HintStack.push" 493), (.str "/claim/cut.py" 494), (.int 122 0), (.int 2 0), (.int 0 0), (.int 0 0), (.int 3 0), (.ref 222), (.bool true), (.int 181 0), (.ref 223), .none, (.ref 224), (.ref 225), (.ref 226), (.int 497 0), (.int 122 0), (.str "/claim/cut.py" 498)]), #[]⟩) ::
(nat_lit 228, ⟨(.type "function"), none, (.func ⟨"push", "HintStack.push", fa21, (.stmts fb21), fs21, 3, [], .none, .none, .none, (.str "outlinemill.hint_work" 470), none, (.ref 227), .none, 0⟩), #[]⟩) ::
(nat_lit 229, ⟨(.type "tuple"), none, (.seq #[] 0), #[]⟩) ::
(nat_lit 231, ⟨(.type "tuple"), none, (.seq #[(.str "self" 503)] 0), #[]⟩) ::
(nat_lit 232, ⟨(.type "tuple"), none, (.seq #[] 0), #[]⟩) ::
(nat_lit 234, ⟨(.type "code"), none, (.fields #[(.str "pop" 500), (.str "HintStack.pop" 501), (.str "/claim/cut.py" 502), (.int 127 0), (.int 1 0), (.int 0 0), (.int 0 0), (.int 3 0), (.ref 229), (.bool true), (.int 181 0), (.ref 230), .none, (.ref 231), (.ref 232), (.ref 233), (.int 504 0), (.int 127 0), (.str "/claim/cut.py" 505)]), #[]⟩) ::
(nat_lit 235, ⟨(.type "function"), none, (.func ⟨"pop", "HintStack.pop", fa22, (.stmts fb22), fs22, 3, [], .none, .none, .none, (.str "outlinemill.hint_work" 470), none, (.ref 234), .none, 0⟩), #[]⟩) ::
(nat_lit 236, ⟨(.type "tuple"), none, (.seq #[] 0), #[]⟩) ::
(nat_lit 238, ⟨(.type "tuple"), none, (.seq #[(.str "self" 510)] 0), #[]⟩) ::
(nat_lit 239, ⟨(.type "tuple"), none, (.seq #[] 0), #[]⟩) ::
(nat_lit 241, ⟨(.type "code"), none, (.fields #[(.str "pop_count" 507), (.str "HintStack.pop_count" 508), (.str "/claim/cut.py" 509), (.int 132 0), (.int 1 0), (.int 0 0), (.int 0 0), (.int 3 0), (.ref 236), (.bool true), (.int 181 0), (.ref 237), .none, (.ref 238), (.ref 239), (.ref 240), (.int 511 0), (.int 132 0), (.str "/claim/cut.py" 512)]), #[]⟩) ::
(nat_lit 242, ⟨(.type "function"), none, (.func ⟨"pop_count", "HintStack.pop_count", fa23, (.stmts fb23), fs13, 3, [], .none, .none, .none, (.str "outlinemill.hint_work" 470), none, (.ref 241), .none, 0⟩), #[]⟩) ::
(nat_lit 243, ⟨(.type "tuple"), none, (.seq #[] 0), #[]⟩) ::
(nat_lit 245, ⟨(.type "tuple"), none, (.seq #[(.str "self" 517), (.str "many" 518)] 0), #[]⟩) ::
(nat_lit 246, ⟨(.type "tuple"), none, (.seq #[] 0), #[]⟩) ::
(nat_lit 248, ⟨(.type "code"), none, (.fields #[(.str "peek" 514), (.str "HintStack.peek" 515), (.str "/claim/cut.py" 516), (.int 135 0), (.int 2 0), (.int 0 0), (.int 0 0), (.int 3 0), (.ref 243), (.bool true), (.int 181 0), (.ref 244), .none, (.ref 245), (.ref 246), (.ref 247), (.int 519 0), (.int 135 0), (.str "/claim/cut.py" 520)]), #[]⟩) ::
(nat_lit 249, ⟨(.type "function"), none, (.func ⟨"peek", "HintStack.peek", fa24, (.stmts fb24), fs24, 3, [], .none, .none, .none, (.str "outlinemill.hint_work" 470), none, (.ref 248), .none, 0⟩), #[]⟩) ::
(nat_lit 250, ⟨(.type "tuple"), none, (.seq #[] 0), #[]⟩) ::
(nat_lit 252, ⟨(.type "tuple"), none, (.seq #[(.str "self" 525)] 0), #[]⟩) ::
(nat_lit 253, ⟨(.type "tuple"), none, (.seq #[] 0), #[]⟩) ::
(nat_lit 255, ⟨(.type "code"), none, (.fields #[(.str "depth" 522), (.str "HintStack.depth" 523), (.str "/claim/cut.py" 524), (.int 138 0), (.int 1 0), (.int 0 0), (.int 0 0), (.int 3 0), (.ref 250), (.bool true), (.int 181 0), (.ref 251), .none, (.ref 252), (.ref 253), (.ref 254), (.int 526 0), (.int 138 0), (.str "/claim/cut.py" 527)]), #[]⟩) ::
(nat_lit 256, ⟨(.type "function"), none, (.func ⟨"depth", "HintStack.depth", fa25, (.stmts fb25), fs13, 3, [], .none, .none, .none, (.str "outlinemill.hint_work" 470), none, (.ref 255), .none, 0⟩), #[]⟩) ::
(nat_lit 257, ⟨(.type "tuple"), none, (.seq #[] 0), #[]⟩) ::
(nat_lit 259, ⟨(.type "tuple"), none, (.seq #[(.str "self" 532)] 0), #[]⟩) ::
(nat_lit 260, ⟨(.type "tuple"), none, (.seq #[] 0), #[]⟩) ::
(nat_lit 262, ⟨(.type "code"), none, (.fields #[(.str "clear" 529), (.str "HintStack.clear" 530), (.str "/claim/cut.py" 531), (.int 141 0), (.int 1 0), (.int 0 0), (.int 0 0), (.int 3 0), (.ref 257), (.bool true), (.int 181 0), (.ref 258), .none, (.ref 259), (.ref 260), (.ref 261), (.int 533 0), (.int 141 0), (.str "/claim/cut.py" 534)]), #[]⟩) ::
(nat_lit 263, ⟨(.type "function"), none, (.func ⟨"clear", "HintStack.clear", fa26, (.stmts fb26), fs13, 3, [], .none, .none, .none, (.str "outlinemill.hint_work" 470), none, (.ref 262), .none, 0⟩), #[]⟩) ::
(nat_lit 264, ⟨(.type "tuple"), none, (.seq #[(.str "most" 536), (.str "numbers" 537)] 0), #[]⟩) ::
(nat_lit 265, ⟨(.type "dict"), none, (.dict #[⟨(PyData.keyHash P "__module__"), (.str "__module__" 479), (.str "outlinemill.hint_work" 470)⟩, ⟨(PyData.keyHash P "__firstlineno__"), (.str "__firstlineno__" 483), (.int 116 482)⟩, ⟨(PyData.keyHash P "__init__"), (.str "__init__" 491), (.ref 221)⟩, ⟨(PyData.keyHash P "push"), (.str "push" 499), (.ref 228)⟩, ⟨(PyData.keyHash P "pop"), (.str "pop" 506), (.ref 235)⟩, ⟨(PyData.keyHash P "pop_count"), (.str "pop_count" 513), (.ref 242)⟩, ⟨(PyData.keyHash P "peek"), (.str "peek" 521), (.ref 249)⟩, ⟨(PyData.keyHash P "depth"), (.str "depth" 528), (.ref 256)⟩, ⟨(PyData.keyHash P "clear"), (.str "clear" 535), (.ref 263)⟩, ⟨(PyData.keyHash P "__static_attributes__"), (.str "__static_attributes__" 538), (.ref 264)⟩, ⟨(PyData.keyHash P "__dict__"), (.str "__dict__" 540), (.ref 267)⟩, ⟨(PyData.keyHash P "__weakref__"), (.str "__weakref__" 542), (.ref 268)⟩, ⟨(PyData.keyHash P "__doc__"), (.str "__doc__" 543), .none⟩] 4), #[]⟩) ::
(nat_lit 266, ⟨(.type "type"), none, (.cls ⟨"HintStack", [(.type "object")], [(.ref 266), (.type "object")], 265, "HintStack", true, [], [], false, none, false⟩), #[none, none, (some (.str "HintStack" 472)), (some (.str "HintStack" 480)), (some (.builtin "object.__new__")), (some (.bool true))]⟩) ::
(nat_lit 267, ⟨(.type "getset_descriptor"), none, (.fields #[(.str "__dict__" 539), (.ref 266), (.builtin "function.__dict__"), (.builtin "function.__dict__#set")]), #[]⟩) ::
(nat_lit 268, ⟨(.type "getset_descriptor"), none, (.fields #[(.str "__weakref__" 541), (.ref 266), (.builtin "ExceptionGroup.__weakref__"), .none]), #[]⟩) ::
(nat_lit 278, ⟨(.type "tuple"), none, (.seq #[(.int 1 561), (.int 1 562)] 0), #[]⟩) ::
(nat_lit 279, ⟨(.type "tuple"), none, (.seq #[(.int 64 558), (.int 12 559), (.int 768 560), (.ref 278)] 0), #[]⟩) ::
(nat_lit 280, ⟨(.type "tuple"), none, (.seq #[] 0), #[]⟩) ::
(nat_lit 282, ⟨(.type "tuple"), none, (.seq #[(.str "self" 566), (.str "zones" 567), (.str "cvt" 568), (.str "stack_most" 569), (.str "ppem" 570), (.str "point_size" 571), (.str "scale" 572)] 0), #[]⟩) ::
(nat_lit 283, ⟨(.type "tuple"), none, (.seq #[] 0), #[]⟩) ::
(nat_lit 285, ⟨(.type "code"), none, (.fields #[(.str "__init__" 563), (.str "HintWork.__init__" 564), (.str "/claim/cut.py" 565), (.int 145 0), (.int 7 0), (.int 0 0), (.int 0 0), (.int 3 0), (.ref 280), (.bool true), (.int 181 0), (.ref 281), .none, (.ref 282), (.ref 283), (.ref 284), (.int 573 0), (.int 145 0), (.str "/claim/cut.py" 574)]), #[]⟩) ::
(nat_lit 286, ⟨(.type "function"), none, (.func ⟨"__init__", "HintWork.__init__", fa27, (.stmts fb27), fs27, 3, [], (.ref 279), .none, .none, (.str "outlinemill.hint_work" 470), none, (.ref 285), .none, 0⟩), #[]⟩) ::
(nat_lit 287, ⟨(.type "tuple"), none, (.seq #[] 0), #[]⟩) ::
(nat_lit 289, ⟨(.type "tuple"), none, (.seq #[(.str "self" 579), (.str "number" 580)] 0), #[]⟩) ::
(nat_lit 290, ⟨(.type "tuple"), none, (.seq #[] 0), #[]⟩) ::
(nat_lit 292, ⟨(.type "code"), none, (.fields #[(.str "zone" 576), (.str "HintWork.zone" 577), (.str "/claim/cut.py" 578), (.int 155 0), (.int 2 0), (.int 0 0), (.int 0 0), (.int 3 0), (.ref 287), (.bool true), (.int 181 0), (.ref 288), .none, (.ref 289), (.ref 290), (.ref 291), (.int 581 0), (.int 155 0), (.str "/claim/cut.py" 582)]), #[]⟩) ::
(nat_lit 293, ⟨(.type "function"), none, (.func ⟨"zone", "HintWork.zone", fa28, (.stmts fb28), fs28, 3, [], .none, .none, .none, (.str "outlinemill.hint_work" 470), none, (.ref 292), .none, 0⟩), #[]⟩) ::
(nat_lit 294, ⟨(.type "tuple"), none, (.seq #[] 0), #[]⟩) ::
(nat_lit 296, ⟨(.type "tuple"), none, (.seq #[(.str "self" 587), (.str "i" 588)] 0), #[]⟩) ::
(nat_lit 297, ⟨(.type "tuple"), none, (.seq #[] 0), #[]⟩) ::
(nat_lit 299, ⟨(.type "code"), none, (.fields #[(.str "cvt_value" 584), (.str "HintWork.cvt_value" 585), (.str "/claim/cut.py" 586), (.int 160 0), (.int 2 0), (.int 0 0), (.int 0 0), (.int 3 0), (.ref 294), (.bool true), (.int 181 0), (.ref 295), .none, (.ref 296), (.ref 297), (.ref 298), (.int 589 0), (.int 160 0), (.str "/claim/cut.py" 590)]), #[]⟩) ::
(nat_lit 300, ⟨(.type "function"), none, (.func ⟨"cvt_value", "HintWork.cvt_value", fa29, (.stmts fb29), fs29, 3, [], .none, .none, .none, (.str "outlinemill.hint_work" 470), none, (.ref 299), .none, 0⟩), #[]⟩) ::
(nat_lit 301, ⟨(.type "tuple"), none, (.seq #[] 0), #[]⟩) ::
(nat_lit 303, ⟨(.type "tuple"), none, (.seq #[(.str "self" 595), (.str "i" 596), (.str "value" 597)] 0), #[]⟩) ::
(nat_lit 304, ⟨(.type "tuple"), none, (.seq #[] 0), #[]⟩) ::
(nat_lit 306, ⟨(.type "code"), none, (.fields #[(.str "put_cvt" 592), (.str "HintWork.put_cvt" 593), (.str "/claim/cut.py" 594), (.int 163 0), (.int 3 0), (.int 0 0), (.int 0 0), (.int 3 0), (.ref 301), (.bool true), (.int 181 0), (.ref 302), .none, (.ref 303), (.ref 304), (.ref 305), (.int 598 0), (.int 163 0), (.str "/claim/cut.py" 599)]), #[]⟩) ::
(nat_lit 307, ⟨(.type "function"), none, (.func ⟨"put_cvt", "HintWork.put_cvt", fa30, (.stmts fb30), fs30, 3, [], .none, .none, .none, (.str "outlinemill.hint_work" 470), none, (.ref 306), .none, 0⟩), #[]⟩) ::
(nat_lit 308, ⟨(.type "tuple"), none, (.seq #[] 0), #[]⟩) ::
(nat_lit 310, ⟨(.type "tuple"), none, (.seq #[(.str "self" 604)] 0), #[]⟩) ::
(nat_lit 311, ⟨(.type "tuple"), none, (.seq #[] 0), #[]⟩) ::
(nat_lit 313, ⟨(.type "code"), none, (.fields #[(.str "next_loop" 601), (.str "HintWork.next_loop" 602), (.str "/claim/cut.py" 603), (.int 166 0), (.int 1 0), (.int 0 0), (.int 0 0), (.int 3 0), (.ref 308), (.bool true), (.int 181 0), (.ref 309), .none, (.ref 310), (.ref 311), (.ref 312), (.int 605 0), (.int 166 0), (.str "/claim/cut.py" 606)]), #[]⟩) ::
(nat_lit 314, ⟨(.type "function"), none, (.func ⟨"next_loop", "HintWork.next_loop", fa31, (.stmts fb31), fs13, 3, [], .none, .none, .none, (.str "outlinemill.hint_work" 470), none, (.ref 313), .none, 0⟩), #[]⟩) ::
(nat_lit 315, ⟨(.type "tuple"), none, (.seq #[(.str "cvt" 608), (.str "point_size" 609), (.str "ppem" 610), (.str "scale" 611), (.str "stack" 612), (.str "state" 613), (.str "storage" 614), (.str "zones" 615)] 0), #[]⟩) ::
(nat_lit 316, ⟨(.type "dict"), none, (.dict #[⟨(PyData.keyHash P "__module__"), (.str "__module__" 553), (.str "outlinemill.hint_work" 470)⟩, ⟨(PyData.keyHash P "__firstlineno__"), (.str "__firstlineno__" 557), (.int 143 556)⟩, ⟨(PyData.keyHash P "__init__"), (.str "__init__" 575), (.ref 286)⟩, ⟨(PyData.keyHash P "zone"), (.str "zone" 583), (.ref 293)⟩, ⟨(PyData.keyHash P "cvt_value"), (.str "cvt_value" 591), (.ref 300)⟩, ⟨(PyData.keyHash P "put_cvt"), (.str "put_cvt" 600), (.ref 307)⟩, ⟨(PyData.keyHash P "next_loop"), (.str "next_loop" 607), (.ref 314)⟩, ⟨(PyData.keyHash P "__static_attributes__"), (.str "__static_attributes__" 616), (.ref 315)⟩, ⟨(PyData.keyHash P "__dict__"), (.str "__dict__" 618), (.ref 318)⟩, ⟨(PyData.keyHash P "__weakref__"), (.str "__weakref__" 620), (.ref 319)⟩, ⟨(PyData.keyHash P "__doc__"), (.str "__doc__" 621), .none⟩] 4), #[]⟩) ::
(nat_lit 317, ⟨(.type "type"), none, (.cls ⟨"HintWork", [(.type "object")], [(.ref 317), (.type "object")], 316, "HintWork", true, [], [], false, none, false⟩), #[none, none, (some (.str "HintWork" 546)), (some (.str "HintWork" 554)), (some (.builtin "object.__new__")), (some (.bool true))]⟩) ::
(nat_lit 318, ⟨(.type "getset_descriptor"), none, (.fields #[(.str "__dict__" 617), (.ref 317), (.builtin "function.__dict__"), (.builtin "function.__dict__#set")]), #[]⟩) ::
(nat_lit 319, ⟨(.type "getset_descriptor"), none, (.fields #[(.str "__weakref__" 619), (.ref 317), (.builtin "ExceptionGroup.__weakref__"), .none]), #[]⟩) ::
(nat_lit 322, ⟨(.type "tuple"), none, (.seq #[] 0), #[]⟩) ::
(nat_lit 324, ⟨(.type "tuple"), none, (.seq #[(.str "place" 629)] 0), #[]⟩) ::
(nat_lit 325, ⟨(.type "tuple"), none, (.seq #[] 0), #[]⟩) ::
(nat_lit 327, ⟨(.type "code"), none, (.fields #[(.str "held" 626), (.str "held" 627), (.str "/claim/cut.py" 628), (.int 169 0), (.int 1 0), (.int 0 0), (.int 0 0), (.int 3 0), (.ref 322), (.bool true), (.int 181 0), (.ref 323), .none, (.ref 324), (.ref 325), (.ref 326), (.int 630 0), (.int 169 0), (.str "/claim/cut.py" 631)]), #[]⟩) ::
(nat_lit 328, ⟨(.type "function"), none, (.func ⟨"held", "held", fa32, (.stmts fb32), fs32, 3, [], .none, .none, .none, (.str "outlinemill.hint_zones" 624), none, (.ref 327), .none, 0⟩), #[]⟩) ::
(nat_lit 336, ⟨(.type "tuple"), none, (.seq #[] 0), #[]⟩) ::
(nat_lit 337, ⟨(.type "tuple"), none, (.seq #[(.ref 336), .none] 0), #[]⟩) ::
(nat_lit 338, ⟨(.type "tuple"), none, (.seq #[] 0), #[]⟩) ::
(nat_lit 341, ⟨(.type "code"), none, (.fields #[(.str "__init__" 645), (.str "Zone.__init__" 646), (.str "/claim/cut.py" 647), (.int 173 0), (.int 4 0), (.int 0 0), (.int 0 0), (.int 3 0), (.ref 338), (.bool true), (.int 181 0), (.ref 339), .none, .none, .none, (.ref 340), (.int 648 0), (.int 173 0), (.str "/claim/cut.py" 649)]), #[]⟩) ::
(nat_lit 342, ⟨(.type "function"), none, (.func ⟨"__init__", "Zone.__init__", fa33, (.stmts fb33), fs33, 3, [], (.ref 337), .none, .none, (.str "outlinemill.hint_zones" 624), none, (.ref 341), .none, 0⟩), #[]⟩) ::
(nat_lit 343, ⟨(.type "tuple"), none, (.seq #[] 0), #[]⟩) ::
(nat_lit 345, ⟨(.type "tuple"), none, (.seq #[(.str "self" 654)] 0), #[]⟩) ::
(nat_lit 346, ⟨(.type "tuple"), none, (.seq #[] 0), #[]⟩) ::
(nat_lit 348, ⟨(.type "code"), none, (.fields #[(.str "count" 651), (.str "Zone.count" 652), (.str "/claim/cut.py" 653), (.int 182 0), (.int 1 0), (.int 0 0), (.int 0 0), (.int 3 0), (.ref 343), (.bool true), (.int 181 0), (.ref 344), .none, (.ref 345), (.ref 346), (.ref 347), (.int 655 0), (.int 182 0), (.str "/claim/cut.py" 656)]), #[]⟩) ::
(nat_lit 349, ⟨(.type "function"), none, (.func ⟨"count", "Zone.count", fa34, (.stmts fb34), fs34, 3, [], .none, .none, .none, (.str "outlinemill.hint_zones" 624), none, (.ref 348), .none, 0⟩), #[]⟩) ::
(nat_lit 350, ⟨(.type "tuple"), none, (.seq #[] 0), #[]⟩) ::
(nat_lit 352, ⟨(.type "tuple"), none, (.seq #[(.str "self" 661), (.str "i" 662)] 0), #[]⟩) ::
(nat_lit 353, ⟨(.type "tuple"), none, (.seq #[] 0), #[]⟩) ::
(nat_lit 355, ⟨(.type "code"), none, (.fields #[(.str "check" 658), (.str "Zone.check" 659), (.str "/claim/cut.py" 660), (.int 185 0), (.int 2 0), (.int 0 0), (.int 0 0), (.int 3 0), (.ref 350), (.bool true), (.int 181 0), (.ref 351), .none, (.ref 352), (.ref 353), (.ref 354), (.int 663 0), (.int 185 0), (.str "/claim/cut.py" 664)]), #[]⟩) ::
(nat_lit 356, ⟨(.type "function"), none, (.func ⟨"check", "Zone.check", fa35, (.stmts fb35), fs35, 3, [], .none, .none, .none, (.str "outlinemill.hint_zones" 624), none, (.ref 355), .none, 0⟩), #[]⟩) ::
(nat_lit 357, ⟨(.type "tuple"), none, (.seq #[] 0), #[]⟩) ::
(nat_lit 359, ⟨(.type "tuple"), none, (.seq #[(.str "self" 669), (.str "i" 670), (.str "place" 671)] 0), #[]⟩) ::
(nat_lit 360, ⟨(.type "tuple"), none, (.seq #[] 0), #[]⟩) ::
(nat_lit 362, ⟨(.type "code"), none, (.fields #[(.str "put" 666), (.str "Zone.put" 667), (.str "/claim/cut.py" 668), (.int 190 0), (.int 3 0), (.int 0 0), (.int 0 0), (.int 3 0), (.ref 357), (.bool true), (.int 181 0), (.ref 358), .none, (.ref 359), (.ref 360), (.ref 361), (.int 672 0), (.int 190 0), (.str "/claim/cut.py" 673)]), #[]⟩) ::
(nat_lit 363, ⟨(.type "function"), none, (.func ⟨"put", "Zone.put", fa36, (.stmts fb36), fs36, 3, [], .none, .none, .none, (.str "outlinemill.hint_zones" 624), none, (.ref 362), .none, 0⟩), #[]⟩) ::
(nat_lit 364, ⟨(.type "tuple"), none, (.seq #[] 0), #[]⟩) ::
(nat_lit 366, ⟨(.type "tuple"), none, (.seq #[(.str "self" 678), (.str "i" 679), (.str "place" 680)] 0), #[]⟩) ::
(nat_lit 367, ⟨(.type "tuple"), none, (.seq #[] 0), #[]⟩) ::
(nat_lit 369, ⟨(.type "code"), none, (.fields #[(.str "put_original" 675), (.str "Zone.put_original" 676), (.str "/claim/cut.py" 677), (.int 193 0), (.int 3 0), (.int 0 0), (.int 0 0), (.int 3 0), (.ref 364), (.bool true), (.int 181 0), (.ref 365), .none, (.ref 366), (.ref 367), (.ref 368), (.int 681 0), (.int 193 0), (.str "/claim/cut.py" 682)]), #[]⟩) ::
(nat_lit 370, ⟨(.type "function"), none, (.func ⟨"put_original", "Zone.put_original", fa37, (.stmts fb37), fs37, 3, [], .none, .none, .none, (.str "outlinemill.hint_zones" 624), none, (.ref 369), .none, 0⟩), #[]⟩) ::
(nat_lit 371, ⟨(.type "tuple"), none, (.seq #[(.str "current" 684), (.str "ends" 685), (.str "on_curve" 686), (.str "original" 687), (.str "touched" 688)] 0), #[]⟩) ::
(nat_lit 372, ⟨(.type "dict"), none, (.dict #[⟨(PyData.keyHash P "__module__"), (.str "__module__" 640), (.str "outlinemill.hint_zones" 624)⟩, ⟨(PyData.keyHash P "__firstlineno__"), (.str "__firstlineno__" 644), (.int 171 643)⟩, ⟨(PyData.keyHash P "__init__"), (.str "__init__" 650), (.ref 342)⟩, ⟨(PyData.keyHash P "count"), (.str "count" 657), (.ref 349)⟩, ⟨(PyData.keyHash P "check"), (.str "check" 665), (.ref 356)⟩, ⟨(PyData.keyHash P "put"), (.str "put" 674), (.ref 363)⟩, ⟨(PyData.keyHash P "put_original"), (.str "put_original" 683), (.ref 370)⟩, ⟨(PyData.keyHash P "__static_attributes__"), (.str "__static_attributes__" 689), (.ref 371)⟩, ⟨(PyData.keyHash P "__dict__"), (.str "__dict__" 691), (.ref 374)⟩, ⟨(PyData.keyHash P "__weakref__"), (.str "__weakref__" 693), (.ref 375)⟩, ⟨(PyData.keyHash P "__doc__"), (.str "__doc__" 694), .none⟩] 4), #[]⟩) ::
(nat_lit 373, ⟨(.type "type"), none, (.cls ⟨"Zone", [(.type "object")], [(.ref 373), (.type "object")], 372, "Zone", true, [], [], false, none, false⟩), #[none, none, (some (.str "Zone" 633)), (some (.str "Zone" 641)), (some (.builtin "object.__new__")), (some (.bool true))]⟩) ::
(nat_lit 374, ⟨(.type "getset_descriptor"), none, (.fields #[(.str "__dict__" 690), (.ref 373), (.builtin "function.__dict__"), (.builtin "function.__dict__#set")]), #[]⟩) ::
(nat_lit 375, ⟨(.type "getset_descriptor"), none, (.fields #[(.str "__weakref__" 692), (.ref 373), (.builtin "ExceptionGroup.__weakref__"), .none]), #[]⟩) ::
(nat_lit 378, ⟨(.type "tuple"), none, (.seq #[] 0), #[]⟩) ::
(nat_lit 380, ⟨(.type "tuple"), none, (.seq #[(.str "script" 702), (.str "cell" 703), (.str "size" 704)] 0), #[]⟩) ::
(nat_lit 381, ⟨(.type "tuple"), none, (.seq #[] 0), #[]⟩) ::
(nat_lit 383, ⟨(.type "code"), none, (.fields #[(.str "_law_pool" 699), (.str "_law_pool" 700), (.str "/claim/cut.py" 701), (.int 196 0), (.int 1 0), (.int 0 0), (.int 0 0), (.int 3 0), (.ref 378), (.bool true), (.int 181 0), (.ref 379), .none, (.ref 380), (.ref 381), (.ref 382), (.int 705 0), (.int 196 0), (.str "/claim/cut.py" 706)]), #[]⟩) ::
(nat_lit 384, ⟨(.type "function"), none, (.func ⟨"_law_pool", "_law_pool", fa38, (.stmts fb38), fs38, 3, [], .none, .none, .none, (.str "law_xm0733_01" 697), none, (.ref 383), .none, 0⟩), #[]⟩) ::
(nat_lit 385, ⟨(.type "tuple"), none, (.seq #[] 0), #[]⟩) ::
(nat_lit 387, ⟨(.type "tuple"), none, (.seq #[(.str "source" 711), (.str "top" 712), (.str "figure" 713)] 0), #[]⟩) ::
(nat_lit 388, ⟨(.type "tuple"), none, (.seq #[] 0), #[]⟩) ::
(nat_lit 390, ⟨(.type "code"), none, (.fields #[(.str "_law_take" 708), (.str "_law_take" 709), (.str "/claim/cut.py" 710), (.int 200 0), (.int 2 0), (.int 0 0), (.int 0 0), (.int 3 0), (.ref 385), (.bool true), (.int 181 0), (.ref 386), .none, (.ref 387), (.ref 388), (.ref 389), (.int 714 0), (.int 200 0), (.str "/claim/cut.py" 715)]), #[]⟩) ::
(nat_lit 391, ⟨(.type "function"), none, (.func ⟨"_law_take", "_law_take", fa39, (.stmts fb39), fs39, 3, [], .none, .none, .none, (.str "law_xm0733_01" 697), none, (.ref 390), .none, 0⟩), #[]⟩) ::
(nat_lit 392, ⟨(.type "tuple"), none, (.seq #[] 0), #[]⟩) ::
(nat_lit 394, ⟨(.type "tuple"), none, (.seq #[(.str "source" 720), (.str "things" 721)] 0), #[]⟩) ::
(nat_lit 395, ⟨(.type "tuple"), none, (.seq #[] 0), #[]⟩) ::
(nat_lit 397, ⟨(.type "code"), none, (.fields #[(.str "_law_one" 717), (.str "_law_one" 718), (.str "/claim/cut.py" 719), (.int 207 0), (.int 2 0), (.int 0 0), (.int 0 0), (.int 3 0), (.ref 392), (.bool true), (.int 181 0), (.ref 393), .none, (.ref 394), (.ref 395), (.ref 396), (.int 722 0), (.int 207 0), (.str "/claim/cut.py" 723)]), #[]⟩) ::
(nat_lit 398, ⟨(.type "function"), none, (.func ⟨"_law_one", "_law_one", fa40, (.stmts fb40), fs40, 3, [], .none, .none, .none, (.str "law_xm0733_01" 697), none, (.ref 397), .none, 0⟩), #[]⟩) ::
(nat_lit 399, ⟨(.type "tuple"), none, (.seq #[] 0), #[]⟩) ::
(nat_lit 401, ⟨(.type "tuple"), none, (.seq #[(.str "number" 728), (.str "low" 729)] 0), #[]⟩) ::
(nat_lit 402, ⟨(.type "tuple"), none, (.seq #[] 0), #[]⟩) ::
(nat_lit 404, ⟨(.type "code"), none, (.fields #[(.str "_law_held" 725), (.str "_law_held" 726), (.str "/claim/cut.py" 727), (.int 209 0), (.int 1 0), (.int 0 0), (.int 0 0), (.int 3 0), (.ref 399), (.bool true), (.int 181 0), (.ref 400), .none, (.ref 401), (.ref 402), (.ref 403), (.int 730 0), (.int 209 0), (.str "/claim/cut.py" 731)]), #[]⟩) ::
(nat_lit 405, ⟨(.type "function"), none, (.func ⟨"_law_held", "_law_held", fa41, (.stmts fb41), fs41, 3, [], .none, .none, .none, (.str "law_xm0733_01" 697), none, (.ref 404), .none, 0⟩), #[]⟩) ::
(nat_lit 406, ⟨(.type "tuple"), none, (.seq #[] 0), #[]⟩) ::
(nat_lit 408, ⟨(.type "tuple"), none, (.seq #[(.str "zone" 736), (.str "old" 737), (.str "due" 738), (.str "marks" 739)] 0), #[]⟩) ::
(nat_lit 409, ⟨(.type "tuple"), none, (.seq #[] 0), #[]⟩) ::
(nat_lit 411, ⟨(.type "code"), none, (.fields #[(.str "_law_stands" 733), (.str "_law_stands" 734), (.str "/claim/cut.py" 735), (.int 212 0), (.int 4 0), (.int 0 0), (.int 0 0), (.int 3 0), (.ref 406), (.bool true), (.int 181 0), (.ref 407), .none, (.ref 408), (.ref 409), (.ref 410), (.int 740 0), (.int 212 0), (.str "/claim/cut.py" 741)]), #[]⟩) ::
(nat_lit 412, ⟨(.type "function"), none, (.func ⟨"_law_stands", "_law_stands", fa42, (.stmts fb42), fs42, 3, [], .none, .none, .none, (.str "law_xm0733_01" 697), none, (.ref 411), .none, 0⟩), #[]⟩) ::
(nat_lit 413, ⟨(.type "tuple"), none, (.seq #[] 0), #[]⟩) ::
(nat_lit 416, ⟨(.type "code"), none, (.fields #[(.str "_law_deeds_right" 743), (.str "_law_deeds_right" 744), (.str "/claim/cut.py" 745), (.int 216 0), (.int 3 0), (.int 0 0), (.int 0 0), (.int 3 0), (.ref 413), (.bool true), (.int 181 0), (.ref 414), .none, .none, .none, (.ref 415), (.int 746 0), (.int 216 0), (.str "/claim/cut.py" 747)]), #[]⟩) ::
(nat_lit 417, ⟨(.type "function"), none, (.func ⟨"_law_deeds_right", "_law_deeds_right", fa43, (.stmts fb43), fs43, 3, [], .none, .none, .none, (.str "law_xm0733_01" 697), none, (.ref 416), .none, 0⟩), #[]⟩) ::
(nat_lit 418, ⟨(.type "tuple"), none, (.seq #[] 0), #[]⟩) ::
(nat_lit 420, ⟨(.type "tuple"), none, (.seq #[(.str "way" 752), (.str "work" 753)] 0), #[]⟩) ::
(nat_lit 421, ⟨(.type "tuple"), none, (.seq #[] 0), #[]⟩) ::
(nat_lit 423, ⟨(.type "code"), none, (.fields #[(.str "_law_state" 749), (.str "_law_state" 750), (.str "/claim/cut.py" 751), (.int 233 0), (.int 1 0), (.int 0 0), (.int 0 0), (.int 3 0), (.ref 418), (.bool true), (.int 181 0), (.ref 419), .none, (.ref 420), (.ref 421), (.ref 422), (.int 754 0), (.int 233 0), (.str "/claim/cut.py" 755)]), #[]⟩) ::
(nat_lit 424, ⟨(.type "function"), none, (.func ⟨"_law_state", "_law_state", fa44, (.stmts fb44), fs44, 3, [], .none, .none, .none, (.str "law_xm0733_01" 697), none, (.ref 423), .none, 0⟩), #[]⟩) ::
(nat_lit 425, ⟨(.type "tuple"), none, (.seq #[] 0), #[]⟩) ::
(nat_lit 428, ⟨(.type "code"), none, (.fields #[(.str "law" 757), (.str "law" 758), (.str "/claim/cut.py" 759), (.int 242 0), (.int 1 0), (.int 0 0), (.int 0 0), (.int 3 0), (.ref 425), (.bool true), (.int 181 0), (.ref 426), .none, .none, .none, (.ref 427), (.int 760 0), (.int 242 0), (.str "/claim/cut.py" 761)]), #[]⟩) ::
(nat_lit 429, ⟨(.type "function"), none, (.func ⟨"law", "law", fa45, (.stmts fb45), fs45, 3, [], .none, .none, .none, (.str "law_xm0733_01" 697), none, (.ref 428), .none, 0⟩), #[]⟩) :: []
noncomputable def qv : Program := view PG0 [0, 2, 3, 5, 6, 8, 9, 10, 11, 12, 13, 15, 16, 17, 19, 20, 22, 24, 25, 27, 28, 30, 31, 32, 33, 34, 35, 36, 37]
example : PySem.Challenge.rw_xm0733_01 = PySem.Challenge.rw_xm0733_01 ∧ Mine.KF = Mine.KF := by
  k_fill
  exact ⟨rfl, rfl⟩
-- 00_base
def NoFold : Prop := True
def Hold (P : Prop) : Prop := P
theorem Hold.out {P : Prop} (h : Hold P) : P := h
theorem let_A {M : Model} {A : Around} {α : Type} {T : Sem α} {Q : α → Shared → Prop} {E : Value → Shared → Prop} {S : Shared} (k : let A9 := A; wpAny M A9 T Q E S) : wpAny M A T Q E S := k
theorem fresh_tk (s₀ : Shared) {M : Model} {A : Around} {α : Type} {T : Sem α} {Q : α → Shared → Prop} {E : Value → Shared → Prop} {h : Heap} {t : Nat} (k : ∀ t' : Nat, wpAny M A T Q E ⟨h, s₀.gens, s₀.drawn, t', s₀.os⟩) : wpAny M A T Q E ⟨h, s₀.gens, s₀.drawn, t + 1, s₀.os⟩ := k _
theorem frz {P G : Prop} (h : P) (k : P → G) : G := k h
theorem mx {α : Type} {l : List α} {a : α} (i : Nat) (h : l[i]? = some a) : a ∈ l := List.mem_of_getElem? h
theorem sub_at {α : Type} {x : α} {r l : List α} (h : x ∈ l) (h' : ∀ p ∈ r, p ∈ l) : ∀ p ∈ x :: r, p ∈ l := fun p hp => by
  rcases List.mem_cons.mp hp with h2 | h2
  · exact h2 ▸ h
  · exact h' p h2
noncomputable abbrev PG := PySem.Challenge.rw_xm0733_01.row.prog
noncomputable abbrev LS := looseW qv [Str.ofString "HintWork", Str.ofString "Zone"]
noncomputable abbrev lst (xs : List Value) : Obj := { cls := .type "list", data := .seq xs.toArray }
noncomputable abbrev tup (xs : List Value) : Obj := { cls := .type "tuple", data := .seq xs.toArray }
theorem fm_lo (x : Int) {c : Int} (h : 0 < c) : 0 ≤ x.fmod c := Int.fmod_nonneg_of_pos _ h
theorem fm_hi (x : Int) {c : Int} (h : 0 < c) : x.fmod c < c := Int.fmod_lt_of_pos _ h
local macro_rules | `(tactic| walk_at "R1") => `(tactic| (k_here; (with_reducible show wpAny _ _ (call (Value.type _) [Value.ref _]) _ _ _); k_dflt (refine' call_tuple_same ?k1 ?_; (case k1 => exact ⟨_, News.get (by k_asm) (by k_mem), rfl, _, rfl⟩); k_whole)))
local macro_rules | `(tactic| walk_at "R3") => `(tactic| (k_here; k_dflt (refine' get_own ?k1 ?k2 ?k3 ?k4 ?k5 ?k6 ?k7 ?k8 ?k9 ?_; (case k1 => k_asm); (case k2 => k_asm); (case k3 => k_inst); (case k4 => k_is); (case k5 => k_is); (case k6 => k_is); (case k7 => k_is); (case k8 => with_reducible assumption); (case k9 => k_handed); k_whole)))
local macro_rules | `(tactic| walk_at "R6") => `(tactic| (k_here; k_dflt (refine' get_own ?k1 ?k2 ?k3 ?k4 ?k5 ?k6 ?k7 ?k8 ?k9 ?_; (case k1 => k_asm); (case k2 => k_asm); (case k3 => k_inst); (case k4 => k_is); (case k5 => k_is); (case k6 => k_is); (case k7 => k_is); (case k8 => exact rfl); (case k9 => k_handed); k_whole)))
local macro_rules | `(tactic| walk_at "R7") => `(tactic| (k_here; k_dflt (refine LCg.CompSrc.range (by rfl) (by k_asm) (by k_asm) (by assumption) (by first | decide | rfl) (by first | rfl | decide) (by first | size_fits | exact Nat.le_of_ble_eq_true rfl) ?_; intro g'; lcg_lit)))
local macro_rules | `(tactic| walk_at "R8") => `(tactic| (k_here; k_dflt (refine wpAny_Try_except ?_)))
local macro_rules | `(tactic| walk_at "R9") => `(tactic| (k_here; (with_reducible show wpAny _ _ (eval (Expr.Name _ _) (envOfC _ _ _ _ _)) _ _ _); k_dflt (refine' nameX_L ?F ?hm ?_ ?ha ?hb ?hc; (case ha => exact rfl); (case hb => exact rfl); (case hc => decide); (case F => k_asm); (case hm => first | exact rfl | ((try dsimp only); (repeat rw [if_neg (by decide)]); assumption)); k_whole)))
local macro_rules | `(tactic| walk_at "execs cons") => `(tactic| (with_reducible refine fresh_tk s ?_; intro tk9))
local macro_rules | `(tactic| walk_at "eval BinOp") => `(tactic| walk_at "FOLD")
local macro_rules | `(tactic| walk_at "eval Call") => `(tactic| walk_at "FOLD")
local macro_rules | `(tactic| walk_at "eval Subscript") => `(tactic| walk_at "FOLD")
local macro_rules | `(tactic| walk_at "eval Tuple") => `(tactic| walk_at "FOLD")
local macro_rules | `(tactic| walk_at "eval List") => `(tactic| walk_at "FOLD")
local macro_rules | `(tactic| walk_at "eval ListComp") => `(tactic| walk_at "FOLD")
local macro_rules | `(tactic| walk_at "eval IfExp") => `(tactic| walk_at "FOLD")
local macro_rules | `(tactic| walk_at "isTrue Compare") => `(tactic| walk_at "FOLD")
local macro_rules | `(tactic| walk_at "FOLD") => `(tactic| ((fail_if_success (with_reducible rename NoFold => nf9)); k_fold))
-- 01_take
theorem mul_sq (x y : Int) : IntMulOk (Int.fmod x 2147483647) y := PySem.IntMulOk.of_left (PySem.intBits_le_64 (by have := fm_lo x (c := 2147483647) (by decide); omega) (by have := fm_hi x (c := 2147483647) (by decide); omega))
section
variable {w : World} {mean : ExcName → Option Value} {mg mb : Str → Option Value} {dp un : Nat} {gd : Option (List Code)} {cn : Str} {cs : Scope} {a : Addr} {ccd : Value} {cl : List (Str × Addr)} {outer : List Env} {A₀ : Around} {base h₀ : Heap} {L : Addr} {m : Str → Option Value} {Q E : Value → Shared → Prop} {news rest : List (Addr × Obj)} {g : Obj → List (Addr × Obj)}
variable {src : Addr} {va vb : Int} {ta tb tt : Tok} {top : Int}
local macro_rules | `(tactic| mul_fits) => `(tactic| with_unfolding_all exact mul_sq _ _)
local macro_rules | `(tactic| k_all) => `(tactic| assumption)
theorem take_c (B : Below A₀ base outer h₀) (F : Fr h₀ L s.heap m) (X : (KF w.params).In h₀) (N : News h₀ L s.heap ((src, lst [.int va ta, .int vb tb]) :: rest)) (T : Top qv LS mean mg mb h₀) (hk : cs.kind = .function) (hdp : dp + 1 < recursionLimit) (hu : un + 8 < cLine)
  (hoff : ∀ p ∈ rest, p.1 ≠ src) (hb0 : 0 ≤ vb) (hb1 : vb < 2147483647) (ht0 : 0 < top) (ht1 : top ≤ 1000)
  (ret : ∀ (r : Int) (t : Tok) (a' b' : Int) (ta' tb' : Tok) (h' : Heap) (tk' : Nat), 0 ≤ r → r < top → 0 ≤ b' → b' < 2147483647 → Fr h₀ L h' m → News h₀ L h' ((src, lst [.int a' ta', .int b' tb']) :: rest) → Q (.int r t) { s with heap := h', toks := tk' }) :
  wpAny (model PG w) (ktrTop dp un gd cn cs L a ccd cl outer) (call (.ref 391) [.ref src, .int top tt]) Q E s := by
  refine wpAny_call ?_
  k_dflt ktr_enter
  k_steps
  all_goals (refine ret _ _ _ _ _ _ _ _ ?_ ?_ ?_ ?_ (by assumption) (by assumption))
  all_goals first | exact fm_lo _ ht0 | exact fm_hi _ ht0 | (with_unfolding_all exact fm_lo _ (by decide)) | (with_unfolding_all exact fm_hi _ (by decide)) | assumption
theorem news_perm {h₀ h : Heap} {L : Addr} {pre post : List (Addr × Obj)} {p : Addr × Obj} : News h₀ L h (pre ++ p :: post) ↔ News h₀ L h (p :: (pre ++ post)) := by
  constructor
  · intro N q hq
    rcases List.mem_cons.mp hq with rfl | hq
    · exact N _ (List.mem_append_right _ (.head _))
    · rcases List.mem_append.mp hq with hq | hq
      · exact N _ (List.mem_append_left _ hq)
      · exact N _ (List.mem_append_right _ (.tail _ hq))
  · intro N q hq
    rcases List.mem_append.mp hq with hq | hq
    · exact N _ (.tail _ (List.mem_append_left _ hq))
    · rcases List.mem_cons.mp hq with rfl | hq
      · exact N _ (.head _)
      · exact N _ (.tail _ (List.mem_append_right _ hq))
theorem take_u (B : Below A₀ base outer h₀) (F : Fr h₀ L s.heap m) (X : (KF w.params).In h₀) (N : News h₀ L s.heap news) (T : Top qv LS mean mg mb h₀) (hk : cs.kind = .function) (hdp : dp + 1 < recursionLimit) (hu : un + 8 < cLine)
  (U : UpdF src (lst [.int va ta, .int vb tb]) news g) (hb0 : 0 ≤ vb) (hb1 : vb < 2147483647) (ht0 : 0 < top) (ht1 : top ≤ 1000)
  (ret : ∀ (r : Int) (t : Tok) (a' b' : Int) (ta' tb' : Tok) (h' : Heap) (tk' : Nat), 0 ≤ r → r < top → 0 ≤ b' → b' < 2147483647 → Fr h₀ L h' m → News h₀ L h' (g (lst [.int a' ta', .int b' tb'])) → Q (.int r t) { s with heap := h', toks := tk' }) :
  wpAny (model PG w) (ktrTop dp un gd cn cs L a ccd cl outer) (call (.ref 391) [.ref src, .int top tt]) Q E s := by
  obtain ⟨pre, post, rfl, hg, h1, h2⟩ := U.split
  refine take_c B F X (news_perm.mp N) T hk hdp hu ?_ hb0 hb1 ht0 ht1 ?_
  · intro p hp
    rcases List.mem_append.mp hp with hp | hp
    · exact h1 p hp
    · exact h2 p hp
  · intro r t a' b' ta' tb' h' tk' r0 r1 b0 b1 F' N'
    exact ret r t a' b' ta' tb' h' tk' r0 r1 b0 b1 F' (by rw [hg]; exact news_perm.mpr N')
end
local macro_rules | `(tactic| walk_at "K8") => `(tactic| ((case k2 => k_asm); (case k1 => k_asm); (case k3 => k_asm); (case k4 => k_asm); (case k5 => k_asm); (case kK => first | exact rfl | assumption); (case kd => ktr_room); (case ku => ktr_units)))
local macro_rules | `(tactic| walk_at "call ref") => `(tactic| (k_here; (with_reducible show wpAny _ _ (call (Value.ref 391) _) _ _ _); k_dflt (refine' take_u ?k1 ?k2 ?k3 ?k4 ?k5 ?kK ?kd ?ku ?kU ?b0 ?b1 ?t0 ?t1 ?_; walk_at "K8"; (case kU => k_updF); (case b0 => first | assumption | decide | omega); (case b1 => first | assumption | decide | omega); (case t0 => first | assumption | decide | omega); (case t1 => first | assumption | decide | omega); k_whole); intro r9 t9 a9 b9 ta9 tb9 h9 tk9 r09 r19 b09 b19 F9 N9; (try dsimp only at N9); (try dsimp only); (try k_sweep)))
-- 02_one
section
variable {w : World} {mean : ExcName → Option Value} {mg mb : Str → Option Value} {dp un : Nat} {gd : Option (List Code)} {cn : Str} {cs : Scope} {a : Addr} {ccd : Value} {cl : List (Str × Addr)} {outer : List Env} {A₀ : Around} {base h₀ : Heap} {L : Addr} {m : Str → Option Value} {Q E : Value → Shared → Prop} {news rest : List (Addr × Obj)} {g : Obj → List (Addr × Obj)}
variable {src th : Addr} {va vb : Int} {ta tb tt : Tok} {v0 v1 v2 v3 v4 v5 v6 v7 : Value}
local macro_rules | `(tactic| k_all) => `(tactic| assumption)
theorem one6_c (B : Below A₀ base outer h₀) (F : Fr h₀ L s.heap m) (X : (KF w.params).In h₀) (N : News h₀ L s.heap ((src, lst [.int va ta, .int vb tb]) :: (th, lst [v0, v1, v2, v3, v4, v5]) :: rest)) (T : Top qv LS mean mg mb h₀) (hk : cs.kind = .function) (hdp : dp + 2 < recursionLimit) (hu : un + 16 < cLine)
  (hth : th ≠ src) (hoff : ∀ p ∈ rest, p.1 ≠ src) (hb0 : 0 ≤ vb) (hb1 : vb < 2147483647)
  (ret : ∀ (v : Value) (a' b' : Int) (ta' tb' : Tok) (h' : Heap) (tk' : Nat), v ∈ [v0, v1, v2, v3, v4, v5] → 0 ≤ b' → b' < 2147483647 → Fr h₀ L h' m → News h₀ L h' ((src, lst [.int a' ta', .int b' tb']) :: (th, lst [v0, v1, v2, v3, v4, v5]) :: rest) → Q v { s with heap := h', toks := tk' }) :
  wpAny (model PG w) (ktrTop dp un gd cn cs L a ccd cl outer) (call (.ref 398) [.ref src, .ref th]) Q E s := by
  refine wpAny_call ?_
  k_dflt ktr_enter
  k_steps
  rename_i r9 t9 a9 b9 ta9 tb9 h9 tk9 r09 r19 b09 b19 F9 N9
  have hr : r9 = 0 ∨ r9 = 1 ∨ r9 = 2 ∨ r9 = 3 ∨ r9 = 4 ∨ r9 = 5 := by omega
  clear r09 r19
  rcases hr with rfl | rfl | rfl | rfl | rfl | rfl
  all_goals k_steps
  all_goals exact ret _ _ _ _ _ _ _ (by simp) (by assumption) (by assumption) (by assumption) (by assumption)
theorem one6_u (B : Below A₀ base outer h₀) (F : Fr h₀ L s.heap m) (X : (KF w.params).In h₀) (N : News h₀ L s.heap news) (T : Top qv LS mean mg mb h₀) (hk : cs.kind = .function) (hdp : dp + 2 < recursionLimit) (hu : un + 16 < cLine)
  (U : UpdF src (lst [.int va ta, .int vb tb]) news g) (hm : (th, lst [v0, v1, v2, v3, v4, v5]) ∈ news) (hth : th ≠ src) (hb0 : 0 ≤ vb) (hb1 : vb < 2147483647)
  (ret : ∀ (v : Value) (a' b' : Int) (ta' tb' : Tok) (h' : Heap) (tk' : Nat), v ∈ [v0, v1, v2, v3, v4, v5] → 0 ≤ b' → b' < 2147483647 → Fr h₀ L h' m → News h₀ L h' (g (lst [.int a' ta', .int b' tb'])) → Q v { s with heap := h', toks := tk' }) :
  wpAny (model PG w) (ktrTop dp un gd cn cs L a ccd cl outer) (call (.ref 398) [.ref src, .ref th]) Q E s := by
  obtain ⟨pre, post, rfl, hg, h1, h2⟩ := U.split
  refine one6_c (rest := pre ++ post) (va := va) (ta := ta) (tb := tb) (v0 := v0) (v1 := v1) (v2 := v2) (v3 := v3) (v4 := v4) (v5 := v5) B F X ?_ T hk hdp hu hth ?_ hb0 hb1 ?_
  · intro p hp
    have N' := news_perm.mp N
    rcases List.mem_cons.mp hp with rfl | hp
    · exact N' _ (.head _)
    · rcases List.mem_cons.mp hp with rfl | hp
      · exact N _ hm
      · exact N' _ (.tail _ hp)
  · intro p hp
    rcases List.mem_append.mp hp with hp | hp
    · exact h1 p hp
    · exact h2 p hp
  · intro v a' b' ta' tb' h' tk' hv b0 b1 F' N'
    refine ret v a' b' ta' tb' h' tk' hv b0 b1 F' (by
      rw [hg]; refine news_perm.mpr (fun p hp => ?_)
      rcases List.mem_cons.mp hp with rfl | hp
      · exact N' _ (.head _)
      · exact N' _ (.tail _ (.tail _ hp)))
theorem one8_c (B : Below A₀ base outer h₀) (F : Fr h₀ L s.heap m) (X : (KF w.params).In h₀) (N : News h₀ L s.heap ((src, lst [.int va ta, .int vb tb]) :: (th, lst [v0, v1, v2, v3, v4, v5, v6, v7]) :: rest)) (T : Top qv LS mean mg mb h₀) (hk : cs.kind = .function) (hdp : dp + 2 < recursionLimit) (hu : un + 16 < cLine)
  (hth : th ≠ src) (hoff : ∀ p ∈ rest, p.1 ≠ src) (hb0 : 0 ≤ vb) (hb1 : vb < 2147483647)
  (ret : ∀ (v : Value) (a' b' : Int) (ta' tb' : Tok) (h' : Heap) (tk' : Nat), v ∈ [v0, v1, v2, v3, v4, v5, v6, v7] → 0 ≤ b' → b' < 2147483647 → Fr h₀ L h' m → News h₀ L h' ((src, lst [.int a' ta', .int b' tb']) :: (th, lst [v0, v1, v2, v3, v4, v5, v6, v7]) :: rest) → Q v { s with heap := h', toks := tk' }) :
  wpAny (model PG w) (ktrTop dp un gd cn cs L a ccd cl outer) (call (.ref 398) [.ref src, .ref th]) Q E s := by
  refine wpAny_call ?_
  k_dflt ktr_enter
  k_steps
  rename_i r9 t9 a9 b9 ta9 tb9 h9 tk9 r09 r19 b09 b19 F9 N9
  have hr : r9 = 0 ∨ r9 = 1 ∨ r9 = 2 ∨ r9 = 3 ∨ r9 = 4 ∨ r9 = 5 ∨ r9 = 6 ∨ r9 = 7 := by omega
  clear r09 r19
  rcases hr with rfl | rfl | rfl | rfl | rfl | rfl | rfl | rfl
  all_goals k_steps
  all_goals exact ret _ _ _ _ _ _ _ (by simp) (by assumption) (by assumption) (by assumption) (by assumption)
theorem one8_u (B : Below A₀ base outer h₀) (F : Fr h₀ L s.heap m) (X : (KF w.params).In h₀) (N : News h₀ L s.heap news) (T : Top qv LS mean mg mb h₀) (hk : cs.kind = .function) (hdp : dp + 2 < recursionLimit) (hu : un + 16 < cLine)
  (U : UpdF src (lst [.int va ta, .int vb tb]) news g) (hm : (th, lst [v0, v1, v2, v3, v4, v5, v6, v7]) ∈ news) (hth : th ≠ src) (hb0 : 0 ≤ vb) (hb1 : vb < 2147483647)
  (ret : ∀ (v : Value) (a' b' : Int) (ta' tb' : Tok) (h' : Heap) (tk' : Nat), v ∈ [v0, v1, v2, v3, v4, v5, v6, v7] → 0 ≤ b' → b' < 2147483647 → Fr h₀ L h' m → News h₀ L h' (g (lst [.int a' ta', .int b' tb'])) → Q v { s with heap := h', toks := tk' }) :
  wpAny (model PG w) (ktrTop dp un gd cn cs L a ccd cl outer) (call (.ref 398) [.ref src, .ref th]) Q E s := by
  obtain ⟨pre, post, rfl, hg, h1, h2⟩ := U.split
  refine one8_c (rest := pre ++ post) (va := va) (ta := ta) (tb := tb) (v0 := v0) (v1 := v1) (v2 := v2) (v3 := v3) (v4 := v4) (v5 := v5) (v6 := v6) (v7 := v7) B F X ?_ T hk hdp hu hth ?_ hb0 hb1 ?_
  · intro p hp
    have N' := news_perm.mp N
    rcases List.mem_cons.mp hp with rfl | hp
    · exact N' _ (.head _)
    · rcases List.mem_cons.mp hp with rfl | hp
      · exact N _ hm
      · exact N' _ (.tail _ hp)
  · intro p hp
    rcases List.mem_append.mp hp with hp | hp
    · exact h1 p hp
    · exact h2 p hp
  · intro v a' b' ta' tb' h' tk' hv b0 b1 F' N'
    refine ret v a' b' ta' tb' h' tk' hv b0 b1 F' (by
      rw [hg]; refine news_perm.mpr (fun p hp => ?_)
      rcases List.mem_cons.mp hp with rfl | hp
      · exact N' _ (.head _)
      · exact N' _ (.tail _ (.tail _ hp)))
end
local macro_rules | `(tactic| walk_at "call ref") => `(tactic| (k_here; (with_reducible show wpAny _ _ (call (Value.ref 398) _) _ _ _); k_dflt (first
  | (refine' one6_u ?k1 ?k2 ?k3 ?k4 ?k5 ?kK ?kd ?ku ?kU ?km ?kn ?b0 ?b1 ?_; walk_at "K8"; (case kU => k_updF); (case km => k_mem); (case kn => k_ne); (case b0 => first | assumption | decide | omega); (case b1 => first | assumption | decide | omega); k_whole)
  | (refine' one8_u ?k1 ?k2 ?k3 ?k4 ?k5 ?kK ?kd ?ku ?kU ?km ?kn ?b0 ?b1 ?_; walk_at "K8"; (case kU => k_updF); (case km => k_mem); (case kn => k_ne); (case b0 => first | assumption | decide | omega); (case b1 => first | assumption | decide | omega); k_whole)); intro v9 a9 b9 ta9 tb9 h9 tk9 hv9 b09 b19 F9 N9; (try dsimp only at N9); (try dsimp only); (try k_sweep)))
-- 03_held
def w32 (n : Int) : Int := (n + 2147483648).fmod 4294967296 - 2147483648
theorem fm_em (x : Int) {c : Int} (h : 0 ≤ c) : x.fmod c = x % c := Int.fmod_eq_emod_of_nonneg _ h
theorem w32_hi {n : Int} (h : n.fmod 4294967296 ≥ 2147483648) : n.fmod 4294967296 - 4294967296 = w32 n := by
  unfold w32; rw [fm_em _ (by decide)] at *; rw [fm_em _ (by decide)]; omega
theorem w32_lo {n : Int} (h : ¬ n.fmod 4294967296 ≥ 2147483648) : n.fmod 4294967296 = w32 n := by
  unfold w32; rw [fm_em _ (by decide)] at *; rw [fm_em _ (by decide)]; omega
section
variable {w : World} {mean : ExcName → Option Value} {mg mb : Str → Option Value} {dp un : Nat} {gd : Option (List Code)} {cn : Str} {cs : Scope} {a : Addr} {ccd : Value} {cl : List (Str × Addr)} {outer : List Env} {A₀ : Around} {base h₀ : Heap} {L : Addr} {m : Str → Option Value} {Q E : Value → Shared → Prop} {news rest : List (Addr × Obj)} {g : Obj → List (Addr × Obj)}
variable {n : Int} {t : Tok}
theorem held_c (B : Below A₀ base outer h₀) (F : Fr h₀ L s.heap m) (X : (KF w.params).In h₀) (N : News h₀ L s.heap news) (T : Top qv LS mean mg mb h₀) (hk : cs.kind = .function) (hdp : dp + 1 < recursionLimit) (_hu : un + 8 < cLine)
  (ret : ∀ (t : Tok) (h' : Heap) (tk' : Nat), Fr h₀ L h' m → News h₀ L h' news → Q (.int (w32 n) t) { s with heap := h', toks := tk' }) :
  wpAny (model PG w) (ktrTop dp un gd cn cs L a ccd cl outer) (call (.ref 405) [.int n t]) Q E s := by
  refine wpAny_call ?_
  k_dflt ktr_enter
  k_steps
  all_goals refine cb_retI ret ?_ (by assumption) (by assumption)
  · exact w32_hi (by first | assumption | omega)
  · exact w32_lo (by first | assumption | omega)
theorem wrap_c (B : Below A₀ base outer h₀) (F : Fr h₀ L s.heap m) (X : (KF w.params).In h₀) (N : News h₀ L s.heap news) (T : Top qv LS mean mg mb h₀) (hk : cs.kind = .function) (hdp : dp + 1 < recursionLimit) (_hu : un + 8 < cLine)
  (ret : ∀ (t : Tok) (h' : Heap) (tk' : Nat), Fr h₀ L h' m → News h₀ L h' news → Q (.int (w32 n) t) { s with heap := h', toks := tk' }) :
  wpAny (model PG w) (ktrTop dp un gd cn cs L a ccd cl outer) (call (.ref 74) [.int n t]) Q E s := by
  refine wpAny_call ?_
  k_dflt ktr_enter
  k_steps
  all_goals refine cb_retI ret ?_ (by assumption) (by assumption)
  all_goals rfl
end
local macro_rules | `(tactic| walk_at "call ref") => `(tactic| (k_here; (with_reducible show wpAny _ _ (call (Value.ref 405) _) _ _ _); k_dflt (refine' held_c ?k1 ?k2 ?k3 ?k4 ?k5 ?kK ?kd ?ku ?_; walk_at "K8"; k_whole); intro t9 h9 tk9 F9 N9; (try dsimp only); (try k_sweep)))
local macro_rules | `(tactic| walk_at "call ref") => `(tactic| (k_here; (with_reducible show wpAny _ _ (call (Value.ref 74) _) _ _ _); k_dflt (refine' wrap_c ?k1 ?k2 ?k3 ?k4 ?k5 ?kK ?kd ?ku ?_; walk_at "K8"; k_whole); intro t9 h9 tk9 F9 N9; (try dsimp only); (try k_sweep)))
-- 04_exc
noncomputable abbrev excO (t : Addr) : Obj := { cls := .ref 65, data := .fields #[.ref t, .none, .none, .none, .bool false, .none] }
noncomputable abbrev excD (t d : Addr) : Obj := { cls := .ref 65, dict := some d, data := .fields #[.ref t, .none, .none, .none, .bool false, .none] }
theorem refuse_hf (self : Value) : refuseLoop self "__setattr__" [.ref 65, .ref 52, .type "Exception", .type "BaseException", .type "object"] = pure () := by
  rw [refuseLoop_ref, refuseLoop_ref]; exact PySem.F.store_Exception.passes self
section
variable {prog : Program} {w : World} {A : Around} {E : Value → Shared → Prop} {h₀ : Heap} {L e t : Addr} {m : Str → Option Value} {rest : List (Addr × Obj)} {v : Value}
theorem set_hf {Q : Unit → Shared → Prop} (F : Fr h₀ L s.heap m) (X : (KF w.params).In h₀) (N : News h₀ L s.heap ((e, excO t) :: rest)) (hoff : ∀ p ∈ rest, p.1 ≠ e)
    (h : ∀ h' d tk', Fr h₀ L h' m → News h₀ L h' ((e, excD t d) :: rest) → Q () { s with heap := h', toks := tk' }) :
    wpAny (model prog w) A (setAttr (.ref e) (Str.ofString "message") v) Q E s := by
  have XS := X.keeps F.keep
  have he : s.heap.get? e = some (excO t) := (N _ (.head _)).1
  have I : PySem.W.InstAt s.heap e (excO t) 65 none := ⟨he, rfl, rfl, trivial⟩
  refine set_plain XS I (by k_is) ?_
  have SF := PySem.F.store_object
  obtain ⟨cdt, hc, hmro, hdict⟩ : ∃ cdt, clsIn (KF w.params) 65 = some cdt ∧ cdt.mro = [.ref 65, .ref 52, .type "Exception", .type "BaseException", .type "object"] ∧ cdt.hasDict = true := ⟨_, by k_is, rfl, rfl⟩
  have sub : Looks (model prog w) s.heap (isInstance (.ref e) (.type "object")) true := I.type.andThen (looks_mroIn XS (by k_is))
  have hm : Looks (model prog w) s.heap (mroOf (.ref 65)) [.ref 65, .ref 52, .type "Exception", .type "BaseException", .type "object"] := hmro ▸ (looks_clsIn XS hc).andThen .now
  have ha : Looks (model prog w) s.heap (typeLookup (.ref 65) (Str.ofString "message")) none := looks_findIn XS (by k_is)
  refine codeAny_call_builtin SF.slot.plain SF.entry (@check_slot (model prog w) _ _ { s with toks := s.toks + 1 } "object.__setattr__" "object" "__setattr__" (.ref e) [.str (Str.ofString "message") s.toks, v] [] _ SF.kind SF.split sub (SF.args (.ref e) (.str (Str.ofString "message") s.toks) v) ?_)
  rw [osa_eq, refuse_eq]
  refine wpAny_bind (wpAny_bind (I.type.at (wpAny_bind (hm.at ?_))))
  rw [refuse_hf]
  refine wpAny_pure (wpAny_bind (I.type.at (wpAny_bind (ha.at (wpAny_bind (wpAny_pure ?_))))))
  have hL : Looks (model prog w) s.heap (classData 65) cdt := looks_clsIn XS hc
  have hxs : e ≠ s.heap.objs.size := Nat.ne_of_lt (Heap.lt_size he)
  have hx₁ : (s.heap.push { cls := .type "dict", data := .dict #[] }).get? e = some (excO t) := Heap.get?_push_of_some _ he
  show wpAny _ _ (PySem.Builtin.ObjectAttr.storeInOwnDict _ _ _ _ _ _) _ _ _
  unfold PySem.Builtin.ObjectAttr.storeInOwnDict
  refine wpAny_bind (wpAny_pure ?_)
  rw [if_neg (by decide)]
  refine wpAny_bind ?_
  show wpAny _ _ (instanceDict e true) _ _ _
  unfold instanceDict
  refine wpAny_bind (wpAny_loadPart_at he ?_)
  dsimp only
  refine wpAny_bind (hL.at ?_)
  rw [hdict, if_neg (by decide), if_neg (by simp [typeHasDict])]
  refine wpAny_bind (wpAny_alloc' ?_)
  refine wpAny_bind (wpAny_update' hx₁ ?_)
  refine wpAny_pure ?_
  have hgd : ((s.heap.push { cls := .type "dict", data := .dict #[] }).update e fun o => { cls := o.cls, dict := some s.heap.objs.size, data := o.data, slots := o.slots }).get? s.heap.objs.size = some { cls := .type "dict", data := .dict #[] } :=
    (Heap.get?_update_ne _ _ _ _ hxs.symm).trans (Heap.get?_push_at rfl rfl)
  have hnd : ((s.heap.push { cls := .type "dict", data := .dict #[] }).update e fun o => { cls := o.cls, dict := some s.heap.objs.size, data := o.data, slots := o.slots }).Ns s.heap.objs.size (fun _ => none) :=
    ⟨_, #[], _, hgd, rfl, fun e he => absurd he (by simp), fun _ => rfl⟩
  have hge : ((s.heap.push { cls := .type "dict", data := .dict #[] }).update e fun o => { cls := o.cls, dict := some s.heap.objs.size, data := o.data, slots := o.slots }).get? e = some (excD t s.heap.objs.size) :=
    Heap.get?_update_self _ hx₁ rfl
  have hot : ∀ b o, b ≠ e → s.heap.get? b = some o → ((s.heap.push { cls := .type "dict", data := .dict #[] }).update e fun o => { cls := o.cls, dict := some s.heap.objs.size, data := o.data, slots := o.slots }).get? b = some o := fun b o hb hg =>
    (Heap.get?_update_ne _ _ _ _ hb).trans (Heap.get?_push_of_some _ hg)
  show wpAny _ _ (PySem.Builtin.ObjectAttr.storeInDict s.heap.objs.size _ _ v) _ _ _
  unfold PySem.Builtin.ObjectAttr.storeInDict PySem.Builtin.ObjectAttr.newKeyGuard
  refine wpAny_bind (wpAny_pure (wpAny_bind (wpAny_nsSet1 (Heap.Ns1.of_empty hnd) fun h' hn' hs => ?_)))
  obtain ⟨oD, esD, epD, hoD, hdD, hcD⟩ := hn'.count (Within.cons (Str.ofString "message") v Within.nil)
  refine wpAny_bind (wpAny_lookBehind hoD (by rw [hdD]; exact pastItsLine_dict (Nat.le_trans hcD (by rw [List.length_cons, List.length_nil, sizeLine_eq]; omega))) ?_)
  have old : ∀ b o, b ≠ e → s.heap.get? b = some o → h'.get? b = some o := fun b o hb hg =>
    (hs.2 b (Nat.ne_of_lt (Heap.lt_size hg))).trans (hot b o hb hg)
  have hLe : L ≠ e := fun q => (N _ (.head _)).2.1 q.symm
  have he0 : h₀.get? e = none := (N _ (.head _)).2.2
  have F' : Fr h₀ L h' m := ⟨F.ns.at' fun o q => old L o hLe q, fun b o q => old b o (fun z => by rw [z, he0] at q; cases q) (F.keep b o q), F.above⟩
  have N' : News h₀ L h' ((e, excD t s.heap.objs.size) :: rest) := by
    intro p hp
    rcases List.mem_cons.mp hp with rfl | hp
    · exact ⟨(hs.2 e hxs).trans hge, (N _ (.head _)).2⟩
    · have := N _ (.tail _ hp)
      exact ⟨old _ _ (hoff _ hp) this.1, this.2⟩
  refine wpAny_pure ?_
  exact h h' _ _ F' N'
end
-- 05_excmake
section
variable {M : Model} {A : Around} {E : Value → Shared → Prop} {h : Heap} {g : Array GenState} {d : Drawn} {t : Nat} {os : OsState}
variable {nm q : Str} {C N : Addr} {bs bm bmB : List Value} {hdct : Bool} {sn : List Str} {sub : List Value} {ab : Bool} {col : Option Bool} {dd : Option Addr} {k0 k1 k2 k3 k5 : Option Value} {Bn newId initId : String}
theorem new_checked (F : ExcBaseFacts Bn newId initId bmB) (hB : bm.contains (.type Bn) = true) {rest : List Value} {Q : Unit → Shared → Prop} (hC : h.get? C = some (excClassObj nm q C N bs bm hdct sn sub ab col dd k0 k1 k2 k3 k5 newId))
    (hq : Q () ⟨h, g, d, t, os⟩) : wpAny M A (checkBuiltinCall newId ⟨.ref C :: rest, []⟩) Q E ⟨h, g, d, t, os⟩ := by
  have hcont : (Value.ref C :: bm).contains (.type Bn) = true := by rw [List.contains_cons, hB, Bool.or_true]
  have hstar := F.noStar
  simp only [checkBuiltinCall, F.newKind, F.newSplit, F.newRow]
  repeat (first | refine wpAny_loadPart_at hC ?_ | (refine wpAny_isSubtype_exc hC ?_; rw [hcont]) | refine wpAny_staticBase_exc hC ?_ | refine wpAny_madeBy_exc hC ?_ | simp only [bne_self_eq_false, Bool.false_eq_true, if_false] | wp_step)
  exact hq
end
section
variable {prog : Program} {w : World} {A : Around} {R : Result → Shared → Prop} {E : Value → Shared → Prop} {h : Heap} {g : Array GenState} {d : Drawn} {t : Nat} {os : OsState}
variable {nm q : Str} {C N : Addr} {bs bm bmB : List Value} {hdct : Bool} {sn : List Str} {sub : List Value} {ab : Bool} {col : Option Bool} {dd : Option Addr} {k0 k1 k2 k3 k5 : Option Value} {Bn newId initId : String}
theorem new_made (F : ExcBaseFacts Bn newId initId bmB) (hB : bm.contains (.type Bn) = true) (hA : bm.contains (.type "AttributeError") = false) (hN : bm.contains (.type "NameError") = false) {rest : List Value}
    (hC : h.get? C = some (excClassObj nm q C N bs bm hdct sn sub ab col dd k0 k1 k2 k3 k5 newId))
    (hq : R (.ok (.ret (.ref (h.objs.size + 1)))) ⟨(h.push { cls := .type "tuple", data := .seq rest.toArray }).push { cls := .ref C, data := .fields #[.ref h.objs.size, .none, .none, .none, .bool false, .none] }, g, d, t, os⟩) (hrest : rest.length ≤ sizeLine) :
    codeAny (model prog w) A (.builtin newId ⟨.ref C :: rest, []⟩) R ⟨h, g, d, t, os⟩ := by
  have hends := F.ends
  have hcB : (Value.ref C :: bm).contains (.type Bn) = true := by rw [List.contains_cons, hB, Bool.or_true]
  have hcA : (Value.ref C :: bm).contains (.type "AttributeError") = false := by rw [List.contains_cons, hA]; rfl
  have hcN : (Value.ref C :: bm).contains (.type "NameError") = false := by rw [List.contains_cons, hN]; rfl
  refine codeAny_builtinAt F.entry ?_
  unfold Builtin.«BaseException.__new__»
  refine PySem.wpAt_bind ?_
  show PySem.wpAt _ _ _ (stack >>= _) _ _ _
  refine PySem.wpAt_bind (PySem.wpAt_stack fun p below => PySem.wpAt_of_wpAny ?_)
  wp_walk
  refine PySem.wpAt_of_wpAny ?_
  rw [F.owner]
  repeat (first | with_reducible refine wpAny_madeHere_exc F.canon hC ?_ | with_reducible refine wpAny_loadPart_at hC ?_ | (with_reducible refine wpAny_isSubtype_exc hC ?_; first | rw [hcB] | rw [hcA] | rw [hcN]) | wp_step)
  show R _ _
  rw [Heap.size_push]
  exact hq
theorem type_called (F : ExcBaseFacts Bn newId initId bmB) (hB : bm.contains (.type Bn) = true) (hA : bm.contains (.type "AttributeError") = false) (hN : bm.contains (.type "NameError") = false) {rest : List Value} {fI : Addr} {oI : Obj} {Q : Fin → Shared → Prop}
    (hC : h.get? C = some (excClassObj nm q C N bs bm hdct sn sub ab col dd k0 k1 k2 k3 k5 newId)) (hi : Looks (model prog w) h (typeLookup (.ref C) "__init__") (some (.ref fI)))
    (hfI : h.get? fI = some oI) (hfc : oI.cls = .type "function")
    (hq : wpAny (model prog w) A (call (.ref fI) (.ref (h.objs.size + 1) :: rest)) (fun r s' => r = .none ∧ Q (.done (.ret (.ref (h.objs.size + 1)))) s') E
      ⟨(h.push { cls := .type "tuple", data := .seq rest.toArray }).push { cls := .ref C, data := .fields #[.ref h.objs.size, .none, .none, .none, .bool false, .none] }, g, d, t, os⟩) (hrest : rest.length ≤ sizeLine) :
    wpAny (model prog w) A (Builtin.«type.__call__» ⟨.ref C :: rest, []⟩) Q E ⟨h, g, d, t, os⟩ := by
  repeat (first | with_reducible refine wpAny_loadPart_at hC ?_ | with_reducible refine wpAny_madeBy_exc hC ?_ | wp_step)
  refine codeAny_call_builtin_code (Code.quiet_builtin _ F.quiet) (new_checked F hB hC ?_)
  refine new_made F hB hA hN hC ?_ hrest
  show wpAny _ _ _ _ _ _
  have keep : ∀ b o, h.get? b = some o → ((h.push { cls := .type "tuple", data := .seq rest.toArray }).push { cls := .ref C, data := .fields #[.ref h.objs.size, .none, .none, .none, .bool false, .none] }).get? b = some o := fun b o e => Heap.get?_push_of_some _ (Heap.get?_push_of_some _ e)
  have hC₁ := keep _ _ hC
  have hfI₁ := keep _ _ hfI
  have hi₁ := hi.keeps keep
  have hget : ((h.push { cls := .type "tuple", data := .seq rest.toArray }).push
      { cls := .ref C, data := .fields #[.ref h.objs.size, .none, .none, .none, .bool false, .none] }).get? (h.objs.size + 1) = some
      { cls := .ref C, data := .fields #[.ref h.objs.size, .none, .none, .none, .bool false, .none] } := by heap_get
  have hcC : (Value.ref C :: bm).contains (.ref C) = true := by simp
  unfold isInstance
  repeat (first | with_reducible refine wpAny_loadPart_at hget ?_ | (with_reducible refine wpAny_isSubtype_exc hC₁ ?_; rw [hcC]) | wp_step)
  show wpAny _ _ (typeLookup (.ref C) _) _ _ _
  refine hi₁.at ?_
  refine wpAny_holding (wpAny_bind ?_)
  unfold bindSpecial
  refine wpAny_bind (wpAny_typeOf (T := "function") ⟨_, hfI₁, hfc⟩ ?_)
  rw [if_pos (by decide)]
  refine wpAny_pure (wpAny_bind (wpAny_mono hq (fun r s' hr => ?_) fun _ _ x => x))
  obtain ⟨rfl, hQ⟩ := hr
  wp_walk
  exact hQ
theorem exc_called (F : ExcBaseFacts Bn newId initId bmB) (hB : bm.contains (.type Bn) = true) (hA : bm.contains (.type "AttributeError") = false) (hN : bm.contains (.type "NameError") = false) {rest : List Value} {fI : Addr} {oI : Obj} {Q : Value → Shared → Prop}
    (hC : h.get? C = some (excClassObj nm q C N bs bm hdct sn sub ab col dd k0 k1 k2 k3 k5 newId)) (hi : Looks (model prog w) h (typeLookup (.ref C) "__init__") (some (.ref fI)))
    (hfI : h.get? fI = some oI) (hfc : oI.cls = .type "function")
    (hq : wpAny (model prog w) (A.under (.builtin "type.__call__" ⟨.ref C :: rest, []⟩)) (call (.ref fI) (.ref (h.objs.size + 1) :: rest)) (fun r s' => r = .none ∧ Q (.ref (h.objs.size + 1)) s') E
      ⟨(h.push { cls := .type "tuple", data := .seq rest.toArray }).push { cls := .ref C, data := .fields #[.ref h.objs.size, .none, .none, .none, .bool false, .none] }, g, d, t, os⟩) (hrest : rest.length ≤ sizeLine) :
    wpAny (model prog w) A (call (.ref C) rest) Q E ⟨h, g, d, t, os⟩ := by
  have f1 := tc_lookup
  have f2 := tc_bind (.ref C)
  have hT : (⟨h, g, d, t, os⟩ : Shared).TypeIs (.ref C) "type" := ⟨_, hC, rfl⟩
  refine wpAny_call (codeAny_of_tree ?_)
  show wpAny _ _ (callAny (.ref C) _) _ _ _
  repeat (any_goals (first | assumption | with_reducible refine wpAny_loadPart_at hC ?_ | wp_step))
  refine ⟨rfl, ?_⟩
  exact codeAny_call_builtin_at (Code.quiet_builtin _ (by decide +kernel)) entry_typeCall (wpAny_check_type_call_sub hC (type_called F hB hA hN hC hi hfI hfc hq hrest))
end
-- 06_hf
section
variable {w : World} {mean : ExcName → Option Value} {mg mb : Str → Option Value} {dp un : Nat} {gd : Option (List Code)} {cn : Str} {cs : Scope} {a : Addr} {ccd : Value} {cl : List (Str × Addr)} {outer : List Env} {A₀ : Around} {base h₀ : Heap} {L : Addr} {m : Str → Option Value} {Q E : Value → Shared → Prop} {news rest : List (Addr × Obj)} {g : Obj → List (Addr × Obj)}
variable {v : Value}
theorem hf_cls (X : (KF w.params).In h₀) : ∃ nm q N bs hdct sn sub ab col dd k0 k1 k2 k3 k5, h₀.get? 65 = some (excClassObj nm q 65 N bs [.ref 52, .type "Exception", .type "BaseException", .type "object"] hdct sn sub ab col dd k0 k1 k2 k3 k5 "Exception.__new__") :=
  ⟨_, _, _, _, _, _, _, _, _, _, _, _, _, _, _, X 65 _ (by k_is)⟩
theorem hf_init (X : (KF w.params).In h₀) : ∃ oI, h₀.get? 49 = some oI ∧ oI.cls = .type "function" := ⟨_, X 49 _ (by k_is), rfl⟩
local macro_rules | `(tactic| walk_at "setAttr ref") => `(tactic| (k_here; k_dflt (refine' set_hf ?k1 ?k2 ?k3 ?k4 ?_; (case k1 => k_asm); (case k2 => k_asm); (case k3 => k_asm); (case k4 => assumption); k_whole); intro h9 d9 tk9 F9 N9; (try k_sweep)))
theorem hf_c (B : Below A₀ base outer h₀) (F : Fr h₀ L s.heap m) (X : (KF w.params).In h₀) (N : News h₀ L s.heap news) (T : Top qv LS mean mg mb h₀) (hk : cs.kind = .function) (hdp : dp + 2 < recursionLimit) (hu : un + 16 < cLine)
  (ret : ∀ (e t d : Addr) (h' : Heap) (tk' : Nat), Fr h₀ L h' m → News h₀ L h' ((e, excD t d) :: news) → (∀ p ∈ news, p.1 < e) → Q (.ref e) { s with heap := h', toks := tk' }) :
  wpAny (model PG w) (ktrTop dp un gd cn cs L a ccd cl outer) (call (.ref 65) [v]) Q E s := by
  obtain ⟨hh, gg, dd, tt, oo⟩ := s
  have XS := X.keeps F.keep
  obtain ⟨nm, q, N1, bs, hdct, sn, sub, ab, col, dd1, k0, k1, k2, k3, k5, hC⟩ := hf_cls XS
  obtain ⟨oI, hI, hIc⟩ := hf_init XS
  have F2 := (F.push { cls := .type "tuple", data := .seq [v].toArray }).push (excO hh.objs.size)
  have N2 := (N.push F { cls := .type "tuple", data := .seq [v].toArray }).push (F.push _) (excO hh.objs.size)
  have lt : ∀ p ∈ news, p.1 < hh.objs.size + 1 := fun p hp => Nat.lt_succ_of_lt (Heap.lt_size (N p hp).1)
  rw [Heap.size_push] at N2
  have N3 : News h₀ L ((hh.push { cls := .type "tuple", data := .seq [v].toArray }).push (excO hh.objs.size)) ((hh.objs.size + 1, excO hh.objs.size) :: news) := fun p hp => by
    rcases List.mem_cons.mp hp with rfl | hp
    · exact N2 _ (.head _)
    · exact N2 _ (.tail _ (.tail _ hp))
  have hoff : ∀ p ∈ news, p.1 ≠ hh.objs.size + 1 := fun p hp => Nat.ne_of_lt (lt p hp)
  clear N2
  refine exc_called PySem.F.excBase_Exception (by decide) (by decide) (by decide) hC (looks_findIn XS (by k_is)) hI hIc ?_ (by simp [sizeLine_eq])
  clear hC hI XS
  refine wpAny_call ?_
  k_dflt ktr_enter
  k_steps
  exact ret _ _ _ _ _ (by assumption) (by assumption) lt
end
section
variable {prog : Program} {w : World} {A : Around} {E : Value → Shared → Prop} {s s' : Shared} {env : Env} {h₀ base g : Heap} {outer : List Env} {L a e : Addr} {m : Str → Option Value} {name : Str} {scope : Scope} {cd : Value} {news : List (Addr × Obj)}
def RaisesHF (w : World) (E : Value → Shared → Prop) (v : Value) (s₁ : Shared) : Prop := ∃ e t d, v = .ref e ∧ (KF w.params).In s₁.heap ∧ s₁.heap.get? e = some (excD t d) ∧ E (.ref e) s₁
theorem raisesHF_ {t d : Addr} (F : Fr h₀ L s.heap m) (X : (KF w.params).In h₀) (N : News h₀ L s.heap news) (hm : (e, excD t d) ∈ news) (h : E (.ref e) s) : RaisesHF w E (.ref e) s := ⟨e, t, d, rfl, X.keeps F.keep, (N _ hm).1, h⟩
theorem raise_hf {c : PySem.Expr} {pos : Pos} {Q : Flow → Shared → Prop} (hh : A.handled = none)
    (h : wpAny (model prog w) A (eval c env) (RaisesHF w E) E s) :
    wpAny (model prog w) A (exec (.Raise (some c) none pos) env) Q E s := by
  rw [arm_exec_Raise]
  simp only [evalOpt, Option.map]
  refine wpAny_bind (wpAny_standAt ?_)
  unfold raiseStmt
  refine wpAny_bind (wpAny_bind (wpAny_mono h (fun v s₁ h₁ => ?_) fun _ _ x => x))
  obtain ⟨e, t, d1, rfl, X, he, hE⟩ := h₁
  obtain ⟨nm, q, N1, bs, hdct, sn, sub, ab, col, dd1, k0, k1, k2, k3, k5, hC⟩ := hf_cls X
  obtain ⟨hp, g, d, tk, os⟩ := s₁
  have hcB : ([Value.ref 65, .ref 52, .type "Exception", .type "BaseException", .type "object"]).contains (.type "BaseException") = true := by decide
  refine wpAny_bind (wpAny_standAt (wpAny_pure ?_))
  repeat (first | with_reducible refine wpAny_loadPart_at he ?_ | with_reducible refine wpAny_loadPart_at hC ?_ | (with_reducible refine wpAny_isSubtype_exc hC ?_; rw [hcB]) | wp_step)
  exact wpAny_raiseNew_none hh hE
theorem leave_hf {M : Model} {oe : Obj} {tp : Value} {Q : Unit → Shared → Prop} (K : Below A base outer g) (F : Fr g L s'.heap m) (N : News g L s'.heap ((e, oe) :: news)) (hc : oe.cls = .ref 65) (hd : oe.data = .fields #[tp, .none, .none, .none, .bool false, .none]) (hoff : ∀ p ∈ news, p.1 < e)
    (hQ : ∀ h', RaisedN base outer e (.ref 65) news h' → g.UpToSlots h' → Q () { s' with heap := h' }) (hk : scope.kind = .function := by rfl) :
    wpAny M (A.deeper (envOf name scope L a cd)) (leaving (envOf name scope L a cd) (.ref e)) Q E s' := by
  have K' := K.push (name := name) (a := a) (cd := cd) F hk
  obtain ⟨he, heL, he0⟩ := N _ (.head _)
  have hin : ∀ env ∈ (envOf name scope L a cd :: outer), ∀ b, env.frame = some b → b ∈ e :: (envOf name scope L a cd :: outer).filterMap (·.frame) := fun env hv b hb => .tail _ (List.mem_filterMap.mpr ⟨env, hv, hb⟩)
  have st : base.StaysIn (hideAll s'.heap (e :: (envOf name scope L a cd :: outer).filterMap (·.frame))) := fun b o q => hideAll_get _ (K'.stays b o q) fun hm => by
    rcases List.mem_cons.mp hm with rfl | hm
    · rw [fresh_of_stays K.stays he0] at q; cases q
    · rw [(K'.frames.mem hm).1] at q; cases q
  have hl : ∀ q ∈ news, (hideAll s'.heap (e :: (envOf name scope L a cd :: outer).filterMap (·.frame))).get? q.1 = some q.2 ∧ base.get? q.1 = none := fun q hq => by
    have Nq := N q (.tail _ hq)
    refine ⟨hideAll_get _ Nq.1 fun hm => ?_, fresh_of_stays K.stays Nq.2.2⟩
    rcases List.mem_cons.mp hm with hm | hm
    · exact Nat.ne_of_lt (hoff q hq) hm
    obtain ⟨env, hv, hf⟩ := List.mem_filterMap.mp hm
    rcases List.mem_cons.mp hv with rfl | hv
    · exact Nq.2.1 (Option.some.inj hf).symm
    · obtain ⟨o, ho, _⟩ := (K.frames.mem (List.mem_filterMap.mpr ⟨env, hv, hf⟩)).2
      rw [Nq.2.2] at ho; cases ho
  refine wpAny_leaving_firstW (a0 := tp) K'.stack (funFrames_hide K'.frames hin) rfl he (fun b o hb => of_hideAll _ hb) (hideAll_none _ (.head _)) hd rfl rfl fun h' hL => ?_
  obtain ⟨k1, ⟨_, _, k2⟩, k3, k4⟩ := hL
  exact hQ h' ⟨_, tp, st, hl, k1, hideAll_none _ (.head _), k2, by rw [← hc]; exact k3⟩ ((Heap.UpToSlots.of_keeps F.keep).trans k4)
end
local macro_rules | `(tactic| walk_at "call ref") => `(tactic| (k_here; (with_reducible show wpAny _ _ (call (Value.ref 65) _) _ _ _); k_dflt (refine' hf_c ?k1 ?k2 ?k3 ?k4 ?k5 ?kK ?kd ?ku ?_; walk_at "K8"; k_whole); intro e9 t9 d9 h9 tk9 F9 N9 l9; (have l8 := l9); (try k_lt l8); (try dsimp only); (try k_sweep)))
local macro_rules | `(tactic| walk_at "exec Raise some none") => `(tactic| (k_here; k_dflt (refine' raise_hf ?hh ?_; (case hh => exact rfl); k_whole)))
local macro_rules | `(tactic| walk_at "RaisesHF") => `(tactic| (k_here; k_dflt (refine' raisesHF_ ?k1 ?k2 ?k3 ?k4 ?_; (case k1 => k_asm); (case k2 => k_asm); (case k3 => k_asm); (case k4 => k_mem); k_whole)))
local macro_rules | `(tactic| walk_at "leaving ref") => `(tactic| (k_here; (refine' leave_hf ?k1 ?k2 ?k3 rfl rfl ?k4 ?_; (case k1 => assumption); (case k2 => assumption); (case k3 => assumption); (case k4 => assumption); k_whole); intro h9 R9 U9; (try dsimp only at R9 U9 ⊢)))
-- 07_comp
theorem lc1 {α : Type} {a b c x : α} {n : List α} : ∀ p ∈ a :: b :: c :: x :: n, p ∈ x :: a :: b :: c :: n := by
  intro p hp; simp only [List.mem_cons] at hp ⊢; rcases hp with h | h | h | h | h <;> simp [h]
theorem lc2 {α : Type} {a b c x y : α} {n : List α} : ∀ p ∈ a :: b :: c :: x :: y :: n, p ∈ x :: y :: a :: b :: c :: n := by
  intro p hp; simp only [List.mem_cons] at hp ⊢; rcases hp with h | h | h | h | h | h <;> simp [h]
theorem off1_ne {D : Addr} {l : List (Addr × Obj)} (h : LCg.Off1 D l) : ∀ p ∈ l, p.1 ≠ D := by
  induction l with
  | nil => intro p hp; cases hp
  | cons q r ih =>
    intro p hp
    rcases List.mem_cons.mp hp with rfl | hp
    · exact h.1
    · exact ih h.2 p hp
theorem off3_ne {I C D : Addr} {l : List (Addr × Obj)} (h : LCg.Off3 I C D l) : ∀ p ∈ l, p.1 ≠ D := fun p hp => (h.mem p hp).2.2
def LtA (d : Addr) (l : List Addr) : Prop := ∀ b ∈ l, @LT.lt Nat _ b d
def NeA (d : Addr) (l : List Addr) : Prop := ∀ b ∈ l, b ≠ d
section
variable {a b I C D d x : Addr} {k : Nat} {o : Obj} {l : List Addr} {n rest : List (Addr × Obj)}
theorem lta_of (h : ∀ p ∈ n, @LT.lt Nat _ p.1 d) : LtA d (n.map (·.1)) := fun b hb => by
  obtain ⟨p, hp, rfl⟩ := List.mem_map.mp hb; exact h p hp
theorem nea_of (h : LCg.Off1 D n) : NeA D (n.map (·.1)) := fun b hb => by
  obtain ⟨p, hp, rfl⟩ := List.mem_map.mp hb; exact off1_ne h p hp
theorem ne_o3I (h : LCg.Off3 I C D n) (hm : (a, o) ∈ n) : a ≠ I := (h.mem _ hm).1
theorem ne_o3C (h : LCg.Off3 I C D n) (hm : (a, o) ∈ n) : a ≠ C := (h.mem _ hm).2.1
theorem ne_o3D (h : LCg.Off3 I C D n) (hm : (a, o) ∈ n) : a ≠ D := (h.mem _ hm).2.2
theorem ne_lt (h : LtA d l) (hm : a ∈ l) : a ≠ d := Nat.ne_of_lt (h _ hm)
theorem ne_nea (h : NeA d l) (hm : a ∈ l) : a ≠ d := h _ hm
theorem ne_lt2 (hx : @LT.lt Nat _ d x) (h : LtA d l) (hm : a ∈ l) : a ≠ x := Nat.ne_of_lt (Nat.lt_trans (h _ hm) hx)
theorem ne_cells {a d k : Nat} {l : List Addr} (h : LtA d l) (hm : a ∈ l) : a ≠ d + k := Nat.ne_of_lt (Nat.lt_of_lt_of_le (h _ hm) (Nat.le_add_right d k))
theorem ne_cell {a d k : Nat} {l : List Addr} (h : LtA d l) (hm : a ∈ l) : d + k ≠ a := Ne.symm (ne_cells h hm)
theorem all_of (hs : ∀ b ∈ rest.map (·.1), b ∈ l) {P : Addr → Prop} (h : ∀ b ∈ l, P b) : ∀ p ∈ rest, P p.1 := fun p hp => h _ (hs _ (List.mem_map.mpr ⟨p, hp, rfl⟩))
theorem all_lt (h : LtA d l) (hs : ∀ b ∈ rest.map (·.1), b ∈ l) : ∀ p ∈ rest, p.1 ≠ d := all_of hs (P := fun b => b ≠ d) fun _ hb => ne_lt h hb
theorem all_nea (h : NeA d l) (hs : ∀ b ∈ rest.map (·.1), b ∈ l) : ∀ p ∈ rest, p.1 ≠ d := all_of hs (P := fun b => b ≠ d) h
theorem all_lt2 (hx : @LT.lt Nat _ d x) (h : LtA d l) (hs : ∀ b ∈ rest.map (·.1), b ∈ l) : ∀ p ∈ rest, p.1 ≠ x := all_of hs (P := fun b => b ≠ x) fun _ hb => ne_lt2 hx h hb
theorem all_cell {d k : Nat} {l : List Addr} {rest : List (Addr × Obj)} (h : LtA d l) (hs : ∀ b ∈ rest.map (·.1), b ∈ l) : ∀ p ∈ rest, p.1 ≠ d + k := all_of hs (P := fun b => b ≠ d + k) fun _ hb => ne_cells h hb
theorem all_o3 (h : LCg.Off3 I C D n) (hs : ∀ p ∈ rest, p ∈ n) : ∀ p ∈ rest, p.1 ≠ D := fun p hp => (h.mem p (hs p hp)).2.2
theorem tl_suba {α : Type} {y : α} {r l : List α} (h : ∀ b ∈ r, b ∈ l) : ∀ b ∈ r, b ∈ y :: l := fun b hb => .tail _ (h b hb)
theorem nea_cons (h : a ≠ D) (r : NeA D l) : NeA D (a :: l) := fun b hb => by
  rcases List.mem_cons.mp hb with rfl | hb
  · exact h
  · exact r b hb
theorem nea_nil : NeA D [] := fun _ hb => nomatch hb
theorem nea_rest (h : ∀ p ∈ rest, p.1 ≠ D) : NeA D (rest.map (·.1)) := fun b hb => by
  obtain ⟨p, hp, rfl⟩ := List.mem_map.mp hb; exact h p hp
theorem set_at {prog : Program} {w : World} {A : Around} {E : Value → Shared → Prop} {s : Shared} {h₀ : Heap} {L : Addr} {m : Str → Option Value} {news news' : List (Addr × Obj)} {vs : List Value} {k : Int} {t : Tok} {n : Nat} {v : Value} {Q : Unit → Shared → Prop} (F : Fr h₀ L s.heap m) (N : News h₀ L s.heap news)
    (U : Upd D (listOf vs.toArray n) (listOf (vs.set k.toNat v).toArray n) news news') (h0 : 0 ≤ k) (h1 : k < 3) (hlen : vs.length = 3)
    (h : ∀ h', Fr h₀ L h' m → News h₀ L h' news' → Q () { s with heap := h' }) : wpAny (model prog w) A (setItem (.ref D) (.int k t) v) Q E s := by
  obtain ⟨pre, post, rfl, rfl, a, b⟩ := U.split
  have z := N (D, listOf vs.toArray n) (List.mem_append.mpr (.inr (.head _)))
  have hs : vs.toArray.size = 3 := by rw [List.size_toArray]; exact hlen
  refine ki_setAt z.1 h0 (by omega) (by rw [hs]; omega) (h _ (F.change (Heap.SameBut.update ..) z.2.1 z.2.2) (ki_turn _ N a b ?_ ?_))
  · show vs.toArray.setIfInBounds k.toNat v = (vs.set k.toNat v).toArray
    apply Array.toList_inj.mp
    simp
  · simp
end
local macro_rules | `(tactic| k_lt $h:ident) => `(tactic| (replace $h := lta_of $h; first | ((dsimp only [List.map_cons, List.map_nil] at $h:ident); (try (simp only [List.map_append, List.map_cons, List.map_nil] at $h:ident; refine frz $h ?_; clear $h; intro $h:ident))) | (simp only [List.map_append, List.map_cons, List.map_nil] at $h:ident; refine frz $h ?_; clear $h; intro $h:ident)))
local macro_rules | `(tactic| k_ne) => `(tactic| (refine neN ?_; (try dsimp only); first
  | with_reducible assumption
  | exact Ne.symm (by with_reducible assumption)
  | exact ne_lt (by with_reducible assumption) (by k_mem)
  | exact Ne.symm (ne_lt (by with_reducible assumption) (by k_mem))
  | exact ne_nea (by with_reducible assumption) (by k_mem)
  | exact Ne.symm (ne_nea (by with_reducible assumption) (by k_mem))
  | exact ne_lt2 (by with_reducible assumption) (by with_reducible assumption) (by k_mem)
  | exact Ne.symm (ne_lt2 (by with_reducible assumption) (by with_reducible assumption) (by k_mem))
  | exact ne_cell (by with_reducible assumption) (by k_mem)
  | exact ne_cells (by with_reducible assumption) (by k_mem)
  | exact ne_o3I (by with_reducible assumption) (by k_mem)
  | exact Ne.symm (ne_o3I (by with_reducible assumption) (by k_mem))
  | exact ne_o3C (by with_reducible assumption) (by k_mem)
  | exact Ne.symm (ne_o3C (by with_reducible assumption) (by k_mem))
  | exact ne_o3D (by with_reducible assumption) (by k_mem)
  | exact Ne.symm (ne_o3D (by with_reducible assumption) (by k_mem))
  | omega))
local macro_rules | `(tactic| k_all) => `(tactic| first
  | with_reducible assumption
  | (refine' all_lt (by with_reducible assumption) ?hs9; (case hs9 => ((repeat (first | with_reducible exact fun _ h => h | refine tl_suba ?_)); done)))
  | (refine' all_nea (by with_reducible assumption) ?hs9; (case hs9 => ((repeat (first | with_reducible exact fun _ h => h | refine tl_suba ?_)); done)))
  | (refine' all_lt2 (by with_reducible assumption) (by with_reducible assumption) ?hs9; (case hs9 => ((repeat (first | with_reducible exact fun _ h => h | refine tl_suba ?_)); done)))
  | (refine' all_cell (by with_reducible assumption) ?hs9; (case hs9 => ((repeat (first | with_reducible exact fun _ h => h | refine tl_suba ?_)); done))))
local macro_rules | `(tactic| walk_at "CompRest") => `(tactic| (with_unfolding_all first
  | (refine LCg.CompRest.succ ?_; (try (rename LCg.Off3 _ _ _ _ => oX; clear oX)); intro v' I' oI' C' oC' D' m' h' tk' E' hv' hC' hx' F' N' off' ne'; clear ne'; (first | lcg_open hv' | (obtain ⟨t9', hv9'⟩ := hv'; subst hv9')))
  | refine LCg.CompRest.zero ?_))
local macro_rules | `(tactic| lcg_off) => `(tactic| assumption)
local macro_rules | `(tactic| walk_at "CompEnd") => `(tactic| (k_here; k_dflt (first
  | (refine' LCg.CompEnd.intro (by assumption) (by assumption) _ (fun _ hp => hp) ?k1 ?k2 ?_; (case k1 => lcg_off); (case k2 => lcg_src); k_whole)
  | (refine' LCg.CompEnd.intro (by assumption) (by assumption) _ lc1 ?k1 ?k2 ?_; (case k1 => lcg_off); (case k2 => lcg_src); k_whole)
  | (refine' LCg.CompEnd.intro (by assumption) (by assumption) _ lc2 ?k1 ?k2 ?_; (case k1 => lcg_off); (case k2 => lcg_src); k_whole))))
local macro_rules | `(tactic| walk_at "FinE") => `(tactic| ((unfold LCg.FinE); (try (rename LCg.Off3 _ _ _ _ => oX; clear oX)); intro D' h' tk' F' N' o1'; (try dsimp only [List.nil_append, List.cons_append] at N'); (replace o1' := nea_of o1'); (try dsimp only [List.map_cons, List.map_nil] at o1'); (try (simp only [List.map_append, List.map_cons, List.map_nil] at o1'; refine frz o1' ?_; clear o1'; intro o1')); (try dsimp only)))
local macro_rules | `(tactic| walk_at "FinA") => `(tactic| ((unfold LCg.FinA); (try (rename LCg.Off3 _ _ _ _ => oX; clear oX)); intro D' h' tk' F' N' o1'; (try dsimp only [List.nil_append, List.cons_append] at N'); (replace o1' := nea_of o1'); (try dsimp only [List.map_cons, List.map_nil] at o1'); (try (simp only [List.map_append, List.map_cons, List.map_nil] at o1'; refine frz o1' ?_; clear o1'; intro o1')); (try dsimp only)))
local macro_rules | `(tactic| walk_at "binaryOp Mult ref int") => `(tactic| (k_here; k_dflt (refine' KMa.mul (ws := [.bool true, .bool true, .bool true]) ?F ?N ?l ?lo ?hi ?z ?e ?_; (case F => k_asm); (case N => k_asm); (case l => exact News.isList (by k_asm) (by k_mem)); (case lo => decide); (case hi => decide); (case z => decide); (case e => rfl); k_whole); intro D' h' F' N' l1; (try k_lt l1); (try k_sweep)))
local macro_rules | `(tactic| ktr_units) => `(tactic| ((try dsimp +zetaDelta only); (try simp only [units_in1, units_deeper, units_under_make, Around.mark_units]); (try dsimp only [ktrTop]); omega))
local macro_rules | `(tactic| ktr_room) => `(tactic| ((try dsimp +zetaDelta only); (try simp only [depth_mark, depth_under_make, depth_under_kw, depth_in1, depth_deeper]); (try dsimp only [ktrTop]); omega))
local macro_rules | `(tactic| walk_at "compareOp NotEq ref ref") => `(tactic| (k_here; (with_reducible show wpAny _ _ (compareOp CmpOp.NotEq (Value.ref _) (Value.ref _)) _ _ _); k_dflt ((refine ne_dataH (by ked_read) (by ked_read) (by ked_shaped) (by ked_shaped) (by ktr_units) ?_); ked_norm)))
local macro_rules | `(tactic| walk_at "compareOp Eq ref ref") => `(tactic| (k_here; (with_reducible show wpAny _ _ (compareOp CmpOp.Eq (Value.ref _) (Value.ref _)) _ _ _); k_dflt ((refine eq_dataH (by ked_read) (by ked_read) (by ked_shaped) (by ked_shaped) (by ktr_units) ?_); ked_norm)))
-- 10_zone
noncomputable abbrev ent (w : World) (x : Str) (t : Tok) (v : Value) : DictEntry := { hash := PyData.keyHash w.params x, key := .str x t, val := v }
noncomputable abbrev zoneD (w : World) (k1 k2 k3 k4 k5 : Tok) (og cu to en oc : Addr) : Obj := dictOf [ent w (Str.ofString "original") k1 (.ref og), ent w (Str.ofString "current") k2 (.ref cu), ent w (Str.ofString "touched") k3 (.ref to), ent w (Str.ofString "ends") k4 (.ref en), ent w (Str.ofString "on_curve") k5 (.ref oc)] 5
theorem zsub {α : Type} {l D oc l1 en to q2 q1 q0 cu og c x d po p0 p1 p2 pe : α} {rest : List α} : ∀ p ∈ x :: d :: og :: cu :: to :: q0 :: q1 :: q2 :: en :: oc :: po :: p0 :: p1 :: p2 :: pe :: rest, p ∈ l :: D :: oc :: l1 :: en :: to :: q2 :: q1 :: q0 :: cu :: og :: c :: x :: d :: po :: p0 :: p1 :: p2 :: pe :: rest :=
  sub_at (mx 12 rfl) (sub_at (mx 13 rfl) (sub_at (mx 10 rfl) (sub_at (mx 9 rfl) (sub_at (mx 5 rfl) (sub_at (mx 8 rfl) (sub_at (mx 7 rfl) (sub_at (mx 6 rfl) (sub_at (mx 4 rfl) (sub_at (mx 2 rfl) (sub_at (mx 14 rfl) (sub_at (mx 15 rfl) (sub_at (mx 16 rfl) (sub_at (mx 17 rfl) (sub_at (mx 18 rfl) (fun _ h => .tail _ (.tail _ (.tail _ (.tail _ (.tail _ (.tail _ (.tail _ (.tail _ (.tail _ (.tail _ (.tail _ (.tail _ (.tail _ (.tail _ (.tail _ (.tail _ (.tail _ (.tail _ (.tail _ (h))))))))))))))))))))))))))))))))))
section
variable {w : World} {mean : ExcName → Option Value} {mg mb : Str → Option Value} {dp un : Nat} {gd : Option (List Code)} {cn : Str} {cs : Scope} {a : Addr} {ccd : Value} {cl : List (Str × Addr)} {outer : List Env} {A₀ : Around} {base h₀ : Heap} {L : Addr} {m : Str → Option Value} {Q E : Value → Shared → Prop} {news rest : List (Addr × Obj)} {g : Obj → List (Addr × Obj)}
variable {po p0 p1 p2 pe : Addr} {x0 x1 x2 y0 y1 y2 : Int} {t0 t1 t2 u0 u1 u2 t3 : Tok} {eo ee : Nat}
local macro_rules | `(tactic| k_room) => `(tactic| ktr_room)
local macro_rules | `(tactic| walk_at "call type:tuple") => `(tactic| walk_at "R1")
local macro_rules | `(tactic| walk_at "execs cons") => `(tactic| ((with_reducible show wpAny _ _ (execs (Stmt.Assign [Expr.Attribute _ (Str.ofString "original") _] _ _ :: _) _) _ _ _); (refine let_A ?_); intro A9; (k_dflt (refine wpAny_execs_cons ?_)); (try dsimp only)))
theorem zone_c (B : Below A₀ base outer h₀) (F : Fr h₀ L s.heap m) (X : (KF w.params).In h₀)
  (N : News h₀ L s.heap ((po, listOf #[.ref p0, .ref p1, .ref p2] eo) :: (p0, tup [.int x0 t0, .int y0 u0]) :: (p1, tup [.int x1 t1, .int y1 u1]) :: (p2, tup [.int x2 t2, .int y2 u2]) :: (pe, listOf #[.int 2 t3] ee) :: rest)) (T : Top qv LS mean mg mb h₀) (hk : cs.kind = .function) (hdp : dp + 5 < recursionLimit) (hu : un + 100 < cLine)
  (ret : ∀ (zx zd og cu to q0 q1 q2 en oc : Addr) (k1 k2 k3 k4 k5 : Tok) (e1 e2 e3 e4 e5 e6 e7 e8 : Nat) (h' : Heap) (tk' : Nat), Fr h₀ L h' m →
    News h₀ L h' ((zx, instObj 373 zd) :: (zd, zoneD w k1 k2 k3 k4 k5 og cu to en oc) :: (og, listOf #[.ref p0, .ref p1, .ref p2] e1) :: (cu, listOf #[.ref p0, .ref p1, .ref p2] e2) :: (to, listOf #[.ref q0, .ref q1, .ref q2] e3) ::
      (q0, listOf #[.bool false, .bool false] e4) :: (q1, listOf #[.bool false, .bool false] e5) :: (q2, listOf #[.bool false, .bool false] e6) :: (en, listOf #[.int 2 t3] e7) :: (oc, listOf #[.bool true, .bool true, .bool true] e8) ::
      (po, listOf #[.ref p0, .ref p1, .ref p2] eo) :: (p0, tup [.int x0 t0, .int y0 u0]) :: (p1, tup [.int x1 t1, .int y1 u1]) :: (p2, tup [.int x2 t2, .int y2 u2]) :: (pe, listOf #[.int 2 t3] ee) :: rest) →
    NeA cu (zx :: zd :: og :: to :: q0 :: q1 :: q2 :: en :: oc :: po :: p0 :: p1 :: p2 :: pe :: rest.map (·.1)) → NeA q0 (zx :: zd :: og :: to :: q1 :: q2 :: en :: oc :: po :: p0 :: p1 :: p2 :: pe :: rest.map (·.1)) →
    NeA q1 (zx :: zd :: og :: to :: q0 :: q2 :: en :: oc :: po :: p0 :: p1 :: p2 :: pe :: rest.map (·.1)) → NeA q2 (zx :: zd :: og :: to :: q0 :: q1 :: en :: oc :: po :: p0 :: p1 :: p2 :: pe :: rest.map (·.1)) →
    NeA zx (po :: p0 :: p1 :: p2 :: pe :: rest.map (·.1)) → NeA zd (po :: p0 :: p1 :: p2 :: pe :: rest.map (·.1)) → NeA og (po :: p0 :: p1 :: p2 :: pe :: rest.map (·.1)) →
    NeA to (po :: p0 :: p1 :: p2 :: pe :: rest.map (·.1)) → NeA en (po :: p0 :: p1 :: p2 :: pe :: rest.map (·.1)) → NeA oc (po :: p0 :: p1 :: p2 :: pe :: rest.map (·.1)) → Q (.ref zx) { s with heap := h', toks := tk' }) :
  wpAny (model PG w) (ktrTop dp un gd cn cs L a ccd cl outer) (call (.ref 373) [.ref po, .ref pe]) Q E s := by
  obtain ⟨ck, cn1, cg1, cc1, cm1⟩ := cs
  dsimp only at hk
  subst hk
  k_steps
  (refine' ret _ _ _ _ _ _ _ _ _ _ _ _ _ _ _ _ _ _ _ _ _ _ _ _ _ (by assumption) (cb_drop (by assumption) zsub) ?a1 ?a2 ?a3 ?a4 ?a5 ?a6 ?a7 ?a8 ?a9 ?a10)
  all_goals (repeat (first | exact nea_rest (by k_all) | refine nea_cons (by k_ne) ?_))
end
-- 11_shift
section
variable {w : World} {mean : ExcName → Option Value} {mg mb : Str → Option Value} {dp un : Nat} {gd : Option (List Code)} {cn : Str} {cs : Scope} {a : Addr} {ccd : Value} {cl : List (Str × Addr)} {outer : List Env} {A₀ : Around} {base h₀ : Heap} {L : Addr} {m : Str → Option Value} {Q E : Value → Shared → Prop} {news rest : List (Addr × Obj)} {g : Obj → List (Addr × Obj)}
variable {so sd fr zx zd og cu to en oc ci qi sa : Addr} {fx fy X0 Y0 sx sy i : Int} {tfx tfy tX tY tsx tsy ti k1 k2 k3 k4 k5 : Tok} {es : List DictEntry} {ne e2 e3 e4 : Nat} {cvs tvs : List Value} {bA bB bt : Bool}
theorem item_at {prog : Program} {A : Around} {value slice : PySem.Expr} {l : Addr} {vs : List Value} {n : Nat} {k : Int} {u : Tok} {v : Value} {Q : Value → Shared → Prop} (N : News h₀ L s.heap news) (hm : (l, listOf vs.toArray n) ∈ news) (h0 : 0 ≤ k) (hhi : k < 3) (hx : vs[k.toNat]? = some v) (h : Q v s)
    (hs : subscripted slice false (.ref l) (.int k u) = operate [.ref l, .int k u] (getItem (.ref l) (.int k u)) := by with_unfolding_all rfl) :
    wpAny (model prog w) A (subscriptTail value slice (.ref l) (.int k u)) Q E s :=
  item_litK (News.isList N hm) h0 (by omega) hx h hs
theorem len_at {prog : Program} {A : Around} {l : Addr} {vs : List Value} {n : Nat} {Q : Value → Shared → Prop} (N : News h₀ L s.heap news) (hm : (l, listOf vs.toArray n) ∈ news) (hl : vs.length = 3) (h : Q (.int 3 (s.toks + 1)) { s with toks := s.toks + 1 + 1 }) :
    wpAny (model prog w) A (call (.builtin "len") [.ref l]) Q E s := KM.len_K N hm (by rw [List.size_toArray]; exact hl) (by decide) h
local macro_rules | `(tactic| walk_at "call builtin:len") => `(tactic| (k_here; (with_reducible show wpAny _ _ (call (Value.builtin "len") [Value.ref _]) _ _ _); k_dflt (refine' len_at ?k1 ?k2 ?k3 ?_; (case k1 => k_asm); (case k2 => k_mem); (case k3 => assumption); k_whole)))
local macro_rules | `(tactic| walk_at "getAttr ref") => `(tactic| walk_at "R3")
local macro_rules | `(tactic| walk_at "ite") => `(tactic| first | (with_reducible refine split_ine (fun _ => ?_) (fun h9 => absurd h9 (by assumption))) | (with_reducible refine split_ine (fun h9 => absurd (by assumption) h9) (fun _ => ?_)))
local macro_rules | `(tactic| k_room) => `(tactic| ktr_room)
local macro_rules | `(tactic| walk_at "subscriptTail") => `(tactic| (k_here; (with_reducible show wpAny _ _ (subscriptTail _ _ (Value.ref _) (Value.int _ _)) _ _ _); (with_unfolding_all refine' item_at ?k1 ?k2 ?k3 ?k4 ?k5 ?_ ?k6; (case k1 => k_asm); (case k2 => k_mem); (case k5 => with_reducible assumption); (case k3 => assumption); (case k4 => omega); (case k6 => with_unfolding_all rfl); k_whole)))
local macro_rules | `(tactic| walk_at "setItem ref int") => `(tactic| (k_here; k_dflt (refine' set_at ?k1 ?k2 ?k3 ?k4 ?k5 ?k6 ?_; (case k1 => k_asm); (case k2 => k_asm); (case k4 => assumption); (case k5 => omega); (case k3 => k_upd); (case k6 => assumption); k_whole); intro h' F' N'; (try k_sweep)))
def mv (f v d : Int) : Int := if f ≠ 0 then v + d else v
theorem mv_y {f v d : Int} (h : f ≠ 0) : w32 (v + d) = w32 (mv f v d) := by unfold mv; rw [if_pos h]
theorem mv_n {f v d : Int} (h : ¬ f ≠ 0) : w32 v = w32 (mv f v d) := by unfold mv; rw [if_neg h]
def tch (b t : Bool) (f : Int) : Bool := b || (t && decide (f ≠ 0))
theorem tch_y {b t : Bool} {f : Int} (ht : t = true) (h : f ≠ 0) : true = tch b t f := by unfold tch; rw [ht, decide_eq_true h]; simp
theorem tch_n {b t : Bool} {f : Int} (h : ¬ f ≠ 0) : b = tch b t f := by unfold tch; rw [decide_eq_false h]; simp
theorem tch_f {b t : Bool} {f : Int} (ht : t = false) : b = tch b t f := by unfold tch; rw [ht]; simp
theorem drop2 {α : Type} {a b : α} {r : List α} : ∀ p ∈ a :: r, p ∈ a :: b :: r := fun p hp => by
  rcases List.mem_cons.mp hp with h | h
  · exact h ▸ .head _
  · exact .tail _ (.tail _ h)
theorem lta_tail {d b : Addr} {l : List Addr} (h : LtA d (b :: l)) : LtA d l := fun x hx => h x (.tail _ hx)
def xyM (m₀ : Str → Option Value) (xv : Int) (t : Tok) (yv : Int) (u : Tok) : Str → Option Value := fun y => if y = Str.ofString "y" then some (.int yv u) else if y = Str.ofString "x" then some (.int xv t) else m₀ y
theorem xyM_x {m₀ : Str → Option Value} {xv x' yv : Int} {t t' u : Tok} : (fun y => if y = Str.ofString "x" then some (Value.int x' t') else if y = Str.ofString "y" then some (Value.int yv u) else if y = Str.ofString "x" then some (Value.int xv t) else m₀ y) = xyM m₀ x' t' yv u := by
  funext y
  unfold xyM
  by_cases h : y = Str.ofString "x"
  · have : ¬ (y = Str.ofString "y") := by rw [h]; decide
    rw [if_pos h, if_neg this, if_pos h]
  · rw [if_neg h, if_neg h, if_neg h]
theorem xyM_y {m₀ : Str → Option Value} {xv yv y' : Int} {t u u' : Tok} : (fun y => if y = Str.ofString "y" then some (Value.int y' u') else if y = Str.ofString "y" then some (Value.int yv u) else if y = Str.ofString "x" then some (Value.int xv t) else m₀ y) = xyM m₀ xv t y' u' := by
  funext y
  unfold xyM
  by_cases h : y = Str.ofString "y"
  · rw [if_pos h, if_pos h]
  · rw [if_neg h, if_neg h, if_neg h]
def JXY (g : Heap) (L : Addr) (m₀ : Str → Option Value) (news : List (Addr × Obj)) (Rx Ry : Int → Prop) (s₀ s' : Shared) : Prop := ∃ (xv : Int) (t : Tok) (yv : Int) (u : Tok) (h' : Heap) (tk' : Nat), Rx xv ∧ Ry yv ∧ Fr g L h' (xyM m₀ xv t yv u) ∧ News g L h' news ∧ s' = ⟨h', s₀.gens, s₀.drawn, tk', s₀.os⟩
theorem cut_xy (s₀ : Shared) (Rx Ry : Int → Prop) {M : Model} {A : Around} {T : Sem Flow} {Q : Flow → Shared → Prop} {E : Value → Shared → Prop} {S : Shared} {g h : Heap} {L : Addr} {m₀ : Str → Option Value} {xv yv : Int} {t u : Tok} {news : List (Addr × Obj)}
    (_ : Fr g L h (fun y => if y = Str.ofString "y" then some (.int yv u) else if y = Str.ofString "x" then some (.int xv t) else m₀ y)) (_ : News g L h news)
    (h1 : wpAny M A T (fun fl s' => fl = .next ∧ JXY g L m₀ news Rx Ry s₀ s') E S)
    (h2 : ∀ (xv : Int) (t : Tok) (yv : Int) (u : Tok) (h' : Heap) (tk' : Nat), Rx xv → Ry yv → Fr g L h' (fun y => if y = Str.ofString "y" then some (.int yv u) else if y = Str.ofString "x" then some (.int xv t) else m₀ y) → News g L h' news → Q .next ⟨h', s₀.gens, s₀.drawn, tk', s₀.os⟩) : wpAny M A T Q E S :=
  wpAny_mono h1 (fun _ _ hq => by
    obtain ⟨e, xv, t, yv, u, h', tk', a, b, c, d, e'⟩ := hq
    subst e
    subst e'
    exact h2 xv t yv u h' tk' a b c d) fun _ _ e => e
section
variable {g : Heap} {L : Addr} {m₀ : Str → Option Value} {news : List (Addr × Obj)} {Rx Ry : Int → Prop} {s₀ : Shared} {h' : Heap} {tk' : Nat} {xv yv x' : Int} {t u t' : Tok}
theorem JXY.no (F : Fr g L h' (fun y => if y = Str.ofString "y" then some (.int yv u) else if y = Str.ofString "x" then some (.int xv t) else m₀ y)) (N : News g L h' news) (a : Rx xv) (b : Ry yv) : JXY g L m₀ news Rx Ry s₀ ⟨h', s₀.gens, s₀.drawn, tk', s₀.os⟩ := ⟨xv, t, yv, u, h', tk', a, b, F, N, rfl⟩
theorem JXY.yx (F : Fr g L h' (fun y => if y = Str.ofString "x" then some (.int x' t') else if y = Str.ofString "y" then some (.int yv u) else if y = Str.ofString "x" then some (.int xv t) else m₀ y)) (N : News g L h' news) (a : Rx x') (b : Ry yv) : JXY g L m₀ news Rx Ry s₀ ⟨h', s₀.gens, s₀.drawn, tk', s₀.os⟩ := ⟨x', t', yv, u, h', tk', a, b, xyM_x ▸ F, N, rfl⟩
theorem JXY.yy (F : Fr g L h' (fun y => if y = Str.ofString "y" then some (.int x' t') else if y = Str.ofString "y" then some (.int yv u) else if y = Str.ofString "x" then some (.int xv t) else m₀ y)) (N : News g L h' news) (a : Rx xv) (b : Ry x') : JXY g L m₀ news Rx Ry s₀ ⟨h', s₀.gens, s₀.drawn, tk', s₀.os⟩ := ⟨xv, t, x', t', h', tk', a, b, xyM_y ▸ F, N, rfl⟩
end
def HoldS (P : Prop) : Prop := P
theorem HoldS.out {P : Prop} (h : HoldS P) : P := h
local macro_rules | `(tactic| walk_at "exec If") => `(tactic| ((with_reducible show wpAny _ _ (exec (Stmt.If (Expr.Compare _ _ _ _) _ _ _) (envOf (Str.ofString "shifted") _ _ _ _)) _ _ _); (fail_if_success (with_reducible show wpAny _ _ _ (fun fl _ => fl = Flow.next ∧ _) _ _)); (refine HoldS.out ?_)))
theorem shifted_c (B : Below A₀ base outer h₀) (F : Fr h₀ L s.heap m) (X : (KF w.params).In h₀)
  (N : News h₀ L s.heap ((so, instObj 203 sd) :: (sd, dictOf es ne) :: (fr, tup [.int fx tfx, .int fy tfy]) :: (zx, instObj 373 zd) :: (zd, zoneD w k1 k2 k3 k4 k5 og cu to en oc) :: (cu, listOf cvs.toArray e2) :: (ci, tup [.int X0 tX, .int Y0 tY]) :: (to, listOf tvs.toArray e3) :: (qi, listOf #[.bool bA, .bool bB] e4) :: (sa, tup [.int sx tsx, .int sy tsy]) :: rest))
  (T : Top qv LS mean mg mb h₀) (hk : cs.kind = .function) (hdp : dp + 7 < recursionLimit) (hu : un + 100 < cLine)
  (hfr : getL (Str.ofString "freedom") es = some (some (.ref fr))) (hi0 : 0 ≤ i) (hi2 : i < 3) (hcl : cvs.length = 3) (htl : tvs.length = 3) (hci : cvs[i.toNat]? = some (.ref ci)) (hqi : tvs[i.toNat]? = some (.ref qi))
  (ncu : NeA cu (so :: sd :: fr :: zx :: zd :: ci :: to :: qi :: sa :: rest.map (·.1))) (nqi : NeA qi (so :: sd :: fr :: zx :: zd :: cu :: ci :: to :: sa :: rest.map (·.1)))
  (ret : ∀ (n : Addr) (t1 t2 : Tok) (h' : Heap) (tk' : Nat), Fr h₀ L h' m →
    News h₀ L h' ((n, tup [.int (w32 (mv fx X0 sx)) t1, .int (w32 (mv fy Y0 sy)) t2]) :: (so, instObj 203 sd) :: (sd, dictOf es ne) :: (fr, tup [.int fx tfx, .int fy tfy]) :: (zx, instObj 373 zd) :: (zd, zoneD w k1 k2 k3 k4 k5 og cu to en oc) :: (cu, listOf (cvs.set i.toNat (.ref n)).toArray e2) :: (ci, tup [.int X0 tX, .int Y0 tY]) :: (to, listOf tvs.toArray e3) :: (qi, listOf #[.bool (tch bA bt fx), .bool (tch bB bt fy)] e4) :: (sa, tup [.int sx tsx, .int sy tsy]) :: rest) →
    LtA n (so :: sd :: fr :: zx :: zd :: cu :: ci :: to :: qi :: sa :: rest.map (·.1)) → Q .none { s with heap := h', toks := tk' }) :
  wpAny (model PG w) (ktrTop dp un gd cn cs L a ccd cl outer) (call (.ref 35) [.ref so, .ref zx, .int i ti, .ref sa, .bool bt]) Q E s := by
  obtain ⟨ck, cn1, cg1, cc1, cm1⟩ := cs
  dsimp only at hk
  subst hk
  have ret' : ∀ (n : Addr) (t1 t2 : Tok) (h' : Heap) (tk' : Nat) (x' y' : Int) (a' b' : Bool), w32 x' = w32 (mv fx X0 sx) → w32 y' = w32 (mv fy Y0 sy) → a' = tch bA bt fx → b' = tch bB bt fy → Fr h₀ L h' m →
    News h₀ L h' ((n, tup [.int (w32 x') t1, .int (w32 y') t2]) :: (so, instObj 203 sd) :: (sd, dictOf es ne) :: (fr, tup [.int fx tfx, .int fy tfy]) :: (zx, instObj 373 zd) :: (zd, zoneD w k1 k2 k3 k4 k5 og cu to en oc) :: (cu, listOf (cvs.set i.toNat (.ref n)).toArray e2) :: (ci, tup [.int X0 tX, .int Y0 tY]) :: (to, listOf tvs.toArray e3) :: (qi, listOf #[.bool a', .bool b'] e4) :: (sa, tup [.int sx tsx, .int sy tsy]) :: rest) →
    LtA n (so :: sd :: fr :: zx :: zd :: cu :: ci :: to :: qi :: sa :: rest.map (·.1)) → Q .none { s with heap := h', toks := tk' } := by
    intro n t1 t2 h' tk' x' y' a' b' q1 q2 q3 q4
    rw [q1, q2, q3, q4]
    exact ret n t1 t2 h' tk'
  clear ret
  refine wpAny_call ?_
  k_dflt k_enter
  refine let_A ?_
  intro A9
  k_steps
  unfold HoldS
  refine' cut_xy s (fun v => w32 v = w32 (mv fx X0 sx)) (fun v => v = Y0) ?F ?N ?h1 ?h2
  case F => k_asm
  case N => k_asm
  case h1 =>
    k_steps
    · exact JXY.yx (by assumption) (by assumption) (mv_y (by assumption)) rfl
    · exact JXY.no (by assumption) (by assumption) (by first | exact mv_n (by assumption) | exact mv_n (fun h => h (by assumption))) rfl
  case h2 =>
    intro xv t yv u h9 tk9 hx hy F9 N9
    subst hy
    dsimp only
    k_steps
    unfold HoldS
    refine' cut_xy s (fun v => w32 v = w32 (mv fx X0 sx)) (fun v => w32 v = w32 (mv fy yv sy)) ?F ?N ?h1 ?h2
    case F => k_asm
    case N => k_asm
    case h1 =>
      k_steps
      · exact JXY.yy (by assumption) (by assumption) hx (mv_y (by assumption))
      · exact JXY.no (by assumption) (by assumption) hx (by first | exact mv_n (by assumption) | exact mv_n (fun h => h (by assumption)))
    case h2 =>
      intro xv t yv u h9 tk9 hx hy F9 N9
      dsimp only
      k_steps
      all_goals (refine' ret' _ _ _ _ _ _ _ _ _ (by assumption) (by assumption) ?_ ?_ (by assumption) (cb_drop (by assumption) drop2) (lta_tail (by assumption)))
      all_goals first | exact tch_y (by assumption) (by assumption) | exact tch_n (by assumption) | exact tch_n (fun h => h (by assumption)) | exact tch_f (by assumption)
end
local macro_rules | `(tactic| walk_at "R2") => `(tactic| (k_here; (with_reducible show wpAny _ _ (call (Value.builtin "len") [Value.ref _]) _ _ _); k_dflt (refine' len_at ?k1 ?k2 ?k3 ?_; (case k1 => k_asm); (case k2 => k_mem); (case k3 => assumption); k_whole)))
local macro_rules | `(tactic| walk_at "R4") => `(tactic| (k_here; (with_reducible show wpAny _ _ (subscriptTail _ _ (Value.ref _) (Value.int _ _)) _ _ _); (with_unfolding_all refine' item_at ?k1 ?k2 ?k3 ?k4 ?k5 ?_ ?k6; (case k1 => k_asm); (case k2 => k_mem); (case k5 => with_reducible assumption); (case k3 => assumption); (case k4 => omega); (case k6 => with_unfolding_all rfl); k_whole)))
local macro_rules | `(tactic| walk_at "R5") => `(tactic| (k_here; k_dflt (refine' set_at ?k1 ?k2 ?k3 ?k4 ?k5 ?k6 ?_; (case k1 => k_asm); (case k2 => k_asm); (case k4 => assumption); (case k5 => omega); (case k3 => k_upd); (case k6 => assumption); k_whole); intro h' F' N'; (try k_sweep)))
-- 12_turn
theorem ktx_mem {env : Env} {outer : List Env} {L b : Addr} (hf : env.frame = some L) (hm : b ∈ (env :: outer).filterMap (·.frame)) : b = L ∨ b ∈ outer.filterMap (·.frame) := by
  obtain ⟨e, he, hf'⟩ := List.mem_filterMap.mp hm
  rcases List.mem_cons.mp he with rfl | he
  · exact .inl (Option.some.inj (hf'.symm.trans hf))
  · exact .inr (List.mem_filterMap.mpr ⟨e, he, hf'⟩)
section
variable {M : Model} {A : Around} {E : Value → Shared → Prop} {s' : Shared} {base g : Heap} {outer : List Env} {L a e : Addr} {m : Str → Option Value} {name : Str} {scope : Scope} {cd : Value} {news : List (Addr × Obj)}
theorem leave_hfS {oe : Obj} {tp : Value} {Q : Unit → Shared → Prop} (K : Below A base outer g) (F : Fr g L s'.heap m) (N : News g L s'.heap ((e, oe) :: news)) (hc : oe.cls = .ref 65) (hd : oe.data = .fields #[tp, .none, .none, .none, .bool false, .none]) (hoff : ∀ p ∈ news, p.1 < e)
    (hQ : ∀ h', RaisedSN base g outer e (.ref 65) news h' → g.UpToSlots h' → Q () { s' with heap := h' }) (hk : scope.kind = .function := by rfl) :
    wpAny M (A.deeper (envOf name scope L a cd)) (leaving (envOf name scope L a cd) (.ref e)) Q E s' := by
  have K' := K.push (name := name) (a := a) (cd := cd) F hk
  obtain ⟨he, heL, he0⟩ := N _ (.head _)
  have hin : ∀ env ∈ (envOf name scope L a cd :: outer), ∀ b, env.frame = some b → b ∈ e :: (envOf name scope L a cd :: outer).filterMap (·.frame) := fun env hv b hb => .tail _ (List.mem_filterMap.mpr ⟨env, hv, hb⟩)
  have st : base.StaysIn (hideAll s'.heap (e :: (envOf name scope L a cd :: outer).filterMap (·.frame))) := fun b o q => hideAll_get _ (K'.stays b o q) fun hm => by
    rcases List.mem_cons.mp hm with rfl | hm
    · rw [fresh_of_stays K.stays he0] at q; cases q
    · rw [(K'.frames.mem hm).1] at q; cases q
  have sg : ∀ b o, g.get? b = some o → b ∉ outer.filterMap (·.frame) → (hideAll s'.heap (e :: (envOf name scope L a cd :: outer).filterMap (·.frame))).get? b = some o := fun b o q nm => hideAll_get _ (F.keep b o q) fun hm => by
    rcases List.mem_cons.mp hm with rfl | hm
    · have he1 : g.get? b = none := he0
      rw [he1] at q; cases q
    · rcases kts_mem hm with z | z
      · rw [z, kts_self F] at q; cases q
      · exact nm z
  have hl : ∀ q ∈ news, (hideAll s'.heap (e :: (envOf name scope L a cd :: outer).filterMap (·.frame))).get? q.1 = some q.2 ∧ g.get? q.1 = none ∧ base.get? q.1 = none := fun q hq => by
    have Nq := N q (.tail _ hq)
    refine ⟨hideAll_get _ Nq.1 fun hm => ?_, Nq.2.2, fresh_of_stays K.stays Nq.2.2⟩
    rcases List.mem_cons.mp hm with hm | hm
    · exact Nat.ne_of_lt (hoff q hq) hm
    obtain ⟨env, hv, hf⟩ := List.mem_filterMap.mp hm
    rcases List.mem_cons.mp hv with rfl | hv
    · exact Nq.2.1 (Option.some.inj hf).symm
    · obtain ⟨o, ho, _⟩ := (K.frames.mem (List.mem_filterMap.mpr ⟨env, hv, hf⟩)).2
      rw [Nq.2.2] at ho; cases ho
  refine wpAny_leaving_firstW (a0 := tp) K'.stack (funFrames_hide K'.frames hin) rfl he (fun b o hb => of_hideAll _ hb) (hideAll_none _ (.head _)) hd rfl rfl fun h' hL => ?_
  obtain ⟨k1, ⟨_, _, k2⟩, k3, k4⟩ := hL
  exact hQ h' ⟨_, tp, st, sg, hl, k1, hideAll_none _ (.head _), k2, by rw [← hc]; exact k3⟩ ((Heap.UpToSlots.of_keeps F.keep).trans k4)
end
section
variable {A₀ : Around} {base g G B h₅ : Heap} {env : Env} {outer : List Env} {L : Addr} {m : Str → Option Value}
theorem ktx_ground (K : Below A₀ base outer g) (F : Fr g L G m) (hf : env.frame = some L) (hBG : ∀ b o, G.get? b = some o → b ∉ (env :: outer).filterMap (·.frame) → B.get? b = some o) (hBh : B.StaysIn h₅) (hsm : G.UpToSlots h₅) :
    ∃ g', KtsTurn (outer.filterMap (·.frame)) g g' ∧ Fr g' L h₅ m ∧ Below A₀ base outer g' := by
  obtain ⟨T, S⟩ := kts_turn_at (h := h₅) (fs := outer.filterMap (·.frame)) (g := g)
    (fun b hb => by
      obtain ⟨_, o, ho, _⟩ := K.frames.mem hb
      exact ⟨o, ho⟩)
    (fun b o e nm => hBh b o (hBG b o (F.keep b o e) (fun hm => by
      rcases ktx_mem hf hm with z | z
      · rw [z, kts_self F] at e
        cases e
      · exact nm z)))
    (fun b o e hm => by
      obtain ⟨_, o', ho', hd⟩ := K.frames.mem hm
      rw [e] at ho'
      cases ho'
      exact hsm b o (F.keep b o e) hd)
  refine ⟨_, T, ⟨hsm.ns F.ns, S, by rw [T.size]; exact F.above⟩, ⟨K.stack, fun b o e => T.other b o (K.stays b o e) (fun hm => by
    rw [(K.frames.mem hm).1] at e
    cases e), K.frames.of_keeps fun b o e _ => ?_⟩⟩
  obtain ⟨sl, hs⟩ := T.up e
  exact ⟨_, hs, rfl⟩
end
section
variable {w : World} {A₀ : Around} {E : Value → Shared → Prop} {s' : Shared} {base g g₀ G : Heap} {outer : List Env} {L a e : Addr} {m : Str → Option Value} {name : Str} {scope : Scope} {cd : Value} {cl : List (Str × Addr)}
  {b₀ : Stmt} {suite : List Stmt} {pos np : Pos} {rest : List ExceptHandler} {Q : Flow → Shared → Prop} {news : List (Addr × Obj)} {mean : ExcName → Option Value} {mg mb : Str → Option Value} {x : Str}
theorem caught_hf (R : RaisedSN base G (envX name scope L a cd cl :: outer) e (.ref 65) news s'.heap) (F : Fr g L G m) (K : Below A₀ base outer g) (hsm : G.UpToSlots s'.heap) (XB : (KF w.params).In base) (TB : Top qv LS mean mg mb base)
    (D : KtsDicts (outer.filterMap (·.frame)) g) (T0 : KtsTurn (outer.filterMap (·.frame)) g₀ g)
    (ex : nsIn (KF w.params) mainGlobals x = some (some (.ref 65)))
    (k : ∀ h' g', KtsTurn (outer.filterMap (·.frame)) g₀ g' → Fr g' L h' m → News g' L h' news → Below A₀ base outer g' → (KF w.params).In g' → Top qv LS mean mg mb g' → KtsDicts (outer.filterMap (·.frame)) g' →
      wpAny (model PG w) ((A₀.deeper (envX name scope L a cd cl)).mark (some (.ref e))) (execs (b₀ :: suite) (envX name scope L a cd cl)) Q E { s' with heap := h' })
    (hk : scope.kind = .function := by rfl) (hx : (envX name scope L a cd cl).kindOf x = some .globalImplicit := by rfl) (hd : (x == ("__debug__" : Str)) = false := by decide)
    (hE : PassesOwnAt (model PG w) ((A₀.deeper (envX name scope L a cd cl)).mark (some (.ref e))) (A₀.deeper (envX name scope L a cd cl)) (envX name scope L a cd cl) E := by passes_own) :
    wpAny (model PG w) (A₀.deeper (envX name scope L a cd cl)) (noteFrame (.ref e) (envX name scope L a cd cl))
      (fun _ s₂ => wpAny (model PG w) (A₀.deeper (envX name scope L a cd cl)) (setFlight (.ref e) none) (fun _ s₃ =>
        wpAny (model PG w) (A₀.deeper (envX name scope L a cd cl)) (handleBy (.ref e) (envX name scope L a cd cl) (.ExceptHandler (some (.Name x np)) none (b₀ :: suite) pos :: rest)) Q E s₃) E s₂) E s' := by
  have hf : (envX name scope L a cd cl).frame = some L := rfl
  obtain ⟨B, a0, hB, hBG, hl, hfl⟩ := R
  have hL : B.get? L = none := by
    obtain ⟨_, ⟨L', _, hf, hn', _⟩, _⟩ := hfl.2.2.1
    obtain rfl : L = L' := Option.some.inj hf
    exact hn'
  refine wpAny_looks_onW (Around.frames_deeper K.stack) rfl hfl fun h₄ hheld₄ hsm₄ => ?_
  refine wpAny_landsW hheld₄ fun h₅ hheld hsm₅' => ?_
  have hsm₅ := hsm₄.trans hsm₅'
  obtain ⟨g₅, T₅, F₅, K₅⟩ := ktx_ground K F hf hBG hheld.1 (hsm.trans hsm₅)
  have X₅ : (Mine.KF w.params).In g₅ := XB.keeps K₅.stays
  have P₅ : TopRead Mine.qv LS mg mb g₅ := topRead_of (TB.keeps K₅.stays)
  obtain ⟨ob, hob, hobc⟩ := hheld.there
  obtain ⟨nm, q', N, bs, hdct, sn, sub, ab, col, dd, k0, k1, k2, k3, k5, hC⟩ := hf_cls X₅
  have hC₅ := F₅.keep _ _ hC
  refine wpAny_handleBy_cons (codeAny_handlers_test (nameX_K F₅ X₅ P₅ ex ?_ hk hx hd)) (by intro q; cases q)
  refine wpAny_excMatches_sub_self hC₅ hob hobc (by decide) (codeAny_handlers_suite ?_)
  refine lands_againW hheld fun h₆ hfl₆ hsm₆ => ?_
  obtain ⟨g₆, T₆, F₆, K₆⟩ := ktx_ground K F hf hBG hfl₆.1 ((hsm.trans hsm₅).trans hsm₆)
  have Nl : News g₆ L h₆ news := fun q hq => ⟨hfl₆.1 _ _ (hl q hq).1, (fun z => by have := (hl q hq).1; rw [z, hL] at this; cases this), T₆.none_ _ (kts_none F.keep (hl q hq).2.1)⟩
  have X₆ : (Mine.KF w.params).In g₆ := XB.keeps K₆.stays
  have P₆ : Top Mine.qv LS mean mg mb g₆ := TB.keeps K₆.stays
  have D₆ : KtsDicts (outer.filterMap (·.frame)) g₆ := D.turn T₆
  exact wpAny_passesOwnAt hE (k h₆ g₆ (T0.trans T₆) F₆ Nl K₆ X₆ P₆ D₆)
end
section
variable {w : World} {A₀ A : Around} {base h₀ : Heap} {env : Env} {L : Addr} {m : Str → Option Value} {news : List (Addr × Obj)} {K : Frag} {p : Program} {loose : List Str} {mean : ExcName → Option Value} {mg mb : Str → Option Value}
    {R : Result → Shared → Prop} {name qual : Str} {params : Arguments} {body : List Stmt} {scope : Scope} {dV kV doc pm cdv ct oc : Value} {an od : Option Addr} {osl : Array (Option Value)} {f : Addr} {args : Args} {binds : List (Str × Value)}
theorem groundS0 (B : Below A₀ base [] h₀) (F : Fr h₀ L s.heap m) (N : News h₀ L s.heap news) (hA : A.frames = some [env]) (hf : env.frame = some L) (hke : env.scope.kind = .function) :
    Fr h₀ L (hideAll s.heap (news.map (·.1))) m ∧ Below A base [env] (hideAll s.heap (news.map (·.1))) ∧ h₀.StaysIn (hideAll s.heap (news.map (·.1))) ∧ KtsDicts ([env].filterMap (·.frame)) (hideAll s.heap (news.map (·.1))) ∧
      ∀ v s', LeaveS0 ([env].filterMap (·.frame)) h₀ L m (hideAll s.heap (news.map (·.1))) R v s' → R (.ok (.ret v)) s' := by
  obtain ⟨FG, BG, st, _⟩ := groundX (R := R) B F N hA hf hke
  have hfs : [env].filterMap (·.frame) = [L] := by simp [hf]
  obtain ⟨oL, es, ep, hLg, hLd, hLk, hLf⟩ := FG.ns
  refine ⟨FG, BG, st, fun b hb => ?_, fun v s' hl => ?_⟩
  · rw [hfs] at hb
    obtain rfl := List.mem_singleton.mp hb
    exact ⟨oL, es, ep, hLg, hLd⟩
  obtain ⟨g', L', m', news', T', F', N', k⟩ := hl
  rw [hfs] at T'
  have nL₀ : h₀.get? L = none := kts_self F
  obtain ⟨sl, hs⟩ := T'.up hLg
  refine k ⟨⟨_, es, ep, F'.keep _ _ hs, hLd, hLk, hLf⟩, fun b o e => F'.keep b o (T'.other b o (st b o e) (fun q => by
    rw [List.mem_singleton.mp q, nL₀] at e
    cases e)), F.above⟩ fun p hp => ⟨(N' p hp).1, fun q => ?_, ?_⟩
  · have := (N' p hp).2.2; rw [q, hs] at this; cases this
  · cases q : h₀.get? p.1 with
    | none => rfl
    | some o =>
      obtain ⟨sl', hs'⟩ := T'.up (st _ _ q)
      have := (N' p hp).2.2
      rw [hs'] at this
      cases this
theorem code_defCS0 (B : Below A₀ base [] h₀) (F : Fr h₀ L s.heap m) (X₀ : K.In h₀) (N : News h₀ L s.heap news) (T : Top p loose mean mg mb h₀) (hA : A.frames = some [env]) (hf : env.frame = some L) (hke : env.scope.kind = .function)
    (ho : K.lookup f = some ⟨oc, od, .func (fnOf name qual params body scope dV kV doc pm an cdv ct), osl⟩) (hcd : codeIn K cdv qual = true) (hroom : A.depth < recursionLimit)
    (hbind : BindsTo s (fnOf name qual params body scope dV kV doc pm an cdv ct) args binds) (hkind : (binds.all fun y => scope.names.lookup y.1 == some .local || scope.names.lookup y.1 == some .cell) = true)
    (hnd : ((cellsFrom 0 scope.names []).map (·.1)).Nodup)
    (h : ∀ g L' h₁ tk cells, Fr h₀ L g m → Fr g L' h₁ (bindL (envOfC qual scope L' f cdv).kindOf binds fun _ => none) → News g L' h₁ (cells ++ news) →
      CellsAre (bindC (envOfC qual scope L' f cdv).kindOf binds fun _ => none) (cellsFrom (L' + 1) scope.names []) cells → Below A base [env] g → K.In g → Top p loose mean mg mb g → KtsDicts ([env].filterMap (·.frame)) g → (∀ p ∈ news, p.1 < L') →
      wpAny (model PG w) (A.deeper (envOfC qual scope L' f cdv)) (execs body (envOfC qual scope L' f cdv))
        (fun fl s' => LeaveS0 ([env].filterMap (·.frame)) h₀ L m g R (match fl with | .ret v => v | _ => .none) s')
        (fun e s' => wpAny (model PG w) (A.deeper (envOfC qual scope L' f cdv)) (leaving (envOfC qual scope L' f cdv) e) (fun _ s'' => R (.error e) s'') (fun e' s'' => R (.error e') s'') s')
        { s with heap := h₁, toks := tk })
    (hco : scope.isCoroutine = false) (hgen : scope.isGenerator = false) (hk : scope.kind = .function) : codeAny (model PG w) A (.call (.ref f) args) R s := by
  obtain ⟨FG, BG, st, DG, lv⟩ := groundS0 (R := R) B F N hA hf hke
  refine codeAny_call_function hroom ((X₀.keeps F.keep) _ _ ho) rfl hco hgen rfl (codeRec_of (X₀.keeps F.keep) hcd) (hbind _ _ _ _ ?_)
  refine wpAny_newFunctionEnv_cells hk (kindsX hkind _) fun env' he s' x => ?_
  subst he
  refine ⟨(T.nolimit.keeps F.keep).keeps x.toInCall.keep, codeAny_func ?_⟩
  obtain ⟨h₁, tk, rfl, _⟩ := x.done
  have hk₁ := x.toInCall.keep
  obtain ⟨cells, NC, Y⟩ := Cl.news (h₀ := s.heap) (Nat.le_refl _) fun n c hm => ⟨x.cell n c (lookup_of_mem_nodup (cellsFrom_names scope.names 0 (s.heap.objs.size + 1) [] [] rfl ▸ hnd) hm), x.above n c hm⟩
  refine wpAny_mono (h _ s.heap.objs.size h₁ tk cells FG ⟨x.toInCall.ns, fun b o e => hk₁ b o (of_hideAll _ e), Nat.le_of_eq (hideAll_size _ _)⟩ (fun p hp => ?_) Y BG (X₀.keeps st) (T.keeps st) DG (fun p hp => Heap.lt_size (N p hp).1)) (fun fl s' hl => lv _ _ hl) fun _ _ y => y
  rcases List.mem_append.mp hp with hp | hp
  · refine ⟨(NC p hp).1, (NC p hp).2.1, ?_⟩
    cases q : (hideAll s.heap (news.map (·.1))).get? p.1 with
    | none => rfl
    | some o => have := of_hideAll _ q; rw [(NC p hp).2.2] at this; cases this
  · exact ⟨hk₁ _ _ (N p hp).1, Nat.ne_of_lt (Heap.lt_size (N p hp).1), hideAll_none _ (List.mem_map_of_mem hp)⟩
end
-- 13_loop
structure Turned (w : World) (A₀ : Around) (base : Heap) (outer : List Env) (mean : ExcName → Option Value) (mg mb : Str → Option Value) (g : Heap) (L : Addr) (g' h : Heap) (m : Str → Option Value) (news : List (Addr × Obj)) : Prop where
  turn : KtsTurn (outer.filterMap (·.frame)) g g'
  fr : Fr g' L h m
  ne : News g' L h news
  below : Below A₀ base outer g'
  inn : (KF w.params).In g'
  top : Top qv LS mean mg mb g'
  dicts : KtsDicts (outer.filterMap (·.frame)) g'
section
variable {w : World} {A : Around} {E : Value → Shared → Prop} {env : Env} {target : Expr} {body : List Stmt} {Q : Flow → Shared → Prop}
def NextTurn (w : World) (A₀ : Around) (base : Heap) (outer : List Env) (mean : ExcName → Option Value) (mg mb : Str → Option Value) (g : Heap) (L : Addr) (ax : Addr) (vs : List Value) (itr : Addr × Obj) (J : (Str → Option Value) → List (Addr × Obj) → Prop) (Q : Flow → Shared → Prop) (s : Shared) (f : Flow) (s₃ : Shared) : Prop :=
  match f with
  | .ret v => Q (.ret v) s₃
  | .brk => Q .next s₃
  | _ => ∃ h' tk g₂ m₂ news₂, s₃ = { s with heap := h', toks := tk } ∧ Turned w A₀ base outer mean mg mb g L g₂ h' m₂ (itr :: news₂) ∧ (∀ p ∈ news₂, p.1 ≠ itr.1) ∧ h'.IsList ax vs.toArray ∧ J m₂ news₂
def OwnLoop (w : World) (A A₀ : Around) (base : Heap) (outer : List Env) (mean : ExcName → Option Value) (mg mb : Str → Option Value) (env : Env) (target : Expr) (body : List Stmt) (Q : Flow → Shared → Prop) (E : Value → Shared → Prop) (xv : Value) (s : Shared) : Prop :=
  ∃ (ax : Addr) (vs : List Value) (g g' : Heap) (m : Str → Option Value) (news : List (Addr × Obj)) (J : Nat → (Str → Option Value) → List (Addr × Obj) → Prop),
    xv = .ref ax ∧ A.handled = none ∧ s.heap.IsList ax vs.toArray ∧ ax ≠ env.locals ∧ Turned w A₀ base outer mean mg mb g env.locals g' s.heap m news ∧ J 0 m news ∧
    (∀ i v g₁ m₁ news₁ h₁ tk₁ itr, vs[i]? = some v → J i m₁ news₁ → itr.2.cls = .type "list_iterator" → (∀ p ∈ news₁, p.1 ≠ itr.1) → (∀ p ∈ news, p.1 < itr.1) → h₁.IsList ax vs.toArray → Turned w A₀ base outer mean mg mb g env.locals g₁ h₁ m₁ (itr :: news₁) →
      wpAny (model PG w) A (assign target env v) (fun _ s₂ => wpAny (model PG w) A (execs body env)
        (NextTurn w A₀ base outer mean mg mb g env.locals ax vs itr (J (i + 1)) Q { s with heap := h₁, toks := tk₁ }) E s₂) E { s with heap := h₁, toks := tk₁ }) ∧
    ∀ h' tk g' m' news', Turned w A₀ base outer mean mg mb g env.locals g' h' m' news' → J vs.length m' news' → Q .next { s with heap := h', toks := tk }
variable {A₀ : Around} {base : Heap} {outer : List Env} {mean : ExcName → Option Value} {mg mb : Str → Option Value}
theorem For_own {iter : Expr} {pos : Pos}
    (h : wpAny (model PG w) A (eval iter env) (OwnLoop w A A₀ base outer mean mg mb env target body Q E) E s)
    (hs : ∀ x, foldedSetIterable iter env x = pure x := by intro _; rfl)
    (hE : PassesOwn (model PG w) A env E := by passes_own) :
    wpAny (model PG w) A (exec (.For target iter body [] pos) env) Q E s := by
  refine wpAny_For (wpAny_mono h (fun xv s₁ h₁ => ?_) fun _ _ e => e) hs
  obtain ⟨ax, vs, g, g', m, news, J, rfl, hh, hl, hax, T, h0, step, hR⟩ := h₁
  refine wpAny_pyIter_list hl ?_
  have hlt : ax < s₁.heap.objs.size := by obtain ⟨o, ho, _⟩ := hl; exact Heap.lt_size ho
  have hLlt : env.locals < s₁.heap.objs.size := T.fr.ns.lt
  have hne : ax ≠ s₁.heap.objs.size := Nat.ne_of_lt hlt
  have hIL : s₁.heap.objs.size ≠ env.locals := Nat.ne_of_gt hLlt
  have F1 := T.fr.push { cls := .type "list_iterator", data := .fields #[.ref ax, .int 0 0] }
  have N1 := T.ne.push T.fr { cls := .type "list_iterator", data := .fields #[.ref ax, .int 0 0] }
  have hI0 : g'.get? s₁.heap.objs.size = none := next_is_new T.fr
  refine codeAny_forLoop_any
    (fun k s' => ∃ i h' tk g₁ m₁ news₁ it, s' = { s₁ with heap := h', toks := tk } ∧ h'.IsListIter s₁.heap.objs.size ax i ∧ h'.IsList ax vs.toArray ∧ Turned w A₀ base outer mean mg mb g env.locals g₁ h' m₁ ((s₁.heap.objs.size, it) :: news₁) ∧
      (∀ p ∈ news₁, p.1 ≠ s₁.heap.objs.size) ∧ J i m₁ news₁ ∧ i ≤ vs.length ∧ k = vs.length + 1 - i) ?_ (vs.length + 1)
    ⟨0, _, s₁.toks, g', m, news, _, rfl, ⟨_, Heap.get?_push_size _ rfl, rfl, rfl⟩, hl.push _, ⟨T.turn, F1, N1, T.below, T.inn, T.top, T.dicts⟩, fun p hp => Nat.ne_of_lt (Heap.lt_size (T.ne p hp).1), h0, Nat.zero_le _, rfl⟩
  rintro k s' ⟨i, h', tk, g₁, m₁, news₁, it, rfl, hit, hls, T₁, hoff, hJ, hi, rfl⟩
  have same : ∀ h₂ : Heap, (∀ b o, b ≠ s₁.heap.objs.size → h'.get? b = some o → h₂.get? b = some o) → Fr g₁ env.locals h₂ m₁ ∧ News g₁ env.locals h₂ news₁ := fun h₂ hk =>
    ⟨⟨T₁.fr.ns.at' fun o e => hk _ o hIL.symm e, fun b o e => hk b o (fun z => by
        have := (T₁.ne _ (.head _)).2.2
        rw [z] at e; rw [e] at this; cases this) (T₁.fr.keep b o e), T₁.fr.above⟩,
      fun p hp => ⟨hk _ _ (hoff p hp) (T₁.ne p (.tail _ hp)).1, (T₁.ne p (.tail _ hp)).2⟩⟩
  by_cases hlt' : i < vs.length
  · have hx : vs.toArray[i]? = some vs[i] := by simp [hlt']
    refine wpAny_pyNext_list_item hit hls hx fun h₂ hit₂ hs₂ => ?_
    refine letGo_listiter hit₂ ?_
    obtain ⟨F₂, N₂⟩ := same h₂ fun b o hb e => hs₂.extBut b o hb e
    obtain ⟨it₂, hg₂, hc₂, hd₂⟩ := id hit₂
    have hls₂ : h₂.IsList ax vs.toArray := hls.extBut hs₂.extBut hne
    have T₂ : Turned w A₀ base outer mean mg mb g env.locals g₁ h₂ m₁ ((s₁.heap.objs.size, it₂) :: news₁) := ⟨T₁.turn, F₂, fun p hp => by
      rcases List.mem_cons.mp hp with rfl | hp
      · exact ⟨hg₂, (T₁.ne _ (.head _)).2⟩
      · exact N₂ p hp, T₁.below, T₁.inn, T₁.top, T₁.dicts⟩
    refine wpAny_mono (step i vs[i] g₁ m₁ news₁ h₂ tk (s₁.heap.objs.size, it₂) (by simp [hlt']) hJ hc₂ hoff (fun p hp => Heap.lt_size (T.ne p hp).1) hls₂ T₂) (fun _ s₃ h₃ => ?_) hE
    refine wpAny_mono h₃ (fun f s₄ h₄ => ?_) hE
    cases f with
    | ret v => exact h₄
    | brk => exact h₄
    | cont =>
      obtain ⟨h₅, tk₅, g₅, m₅, news₅, rfl, T₅, hoff₅, hl₅, hJ₅⟩ := h₄
      exact ⟨vs.length + 1 - (i + 1), by omega, i + 1, h₅, tk₅, g₅, m₅, news₅, it₂, rfl, ⟨it₂, (T₅.ne _ (.head _)).1, hc₂, hd₂⟩, hl₅, T₅, hoff₅, hJ₅, hlt', rfl⟩
    | next =>
      obtain ⟨h₅, tk₅, g₅, m₅, news₅, rfl, T₅, hoff₅, hl₅, hJ₅⟩ := h₄
      exact ⟨vs.length + 1 - (i + 1), by omega, i + 1, h₅, tk₅, g₅, m₅, news₅, it₂, rfl, ⟨it₂, (T₅.ne _ (.head _)).1, hc₂, hd₂⟩, hl₅, T₅, hoff₅, hJ₅, hlt', rfl⟩
  · have hin : i = vs.length := by omega
    subst hin
    refine wpAny_pyNext_list_end hh hit hls (by simp) fun h₂ he₂ => wpAny_execs_nil ?_
    obtain ⟨F₂, N₂⟩ := same h₂ fun b o hb e => he₂ b o hb e
    exact hR h₂ tk g₁ m₁ news₁ ⟨T₁.turn, F₂, N₂, T₁.below, T₁.inn, T₁.top, T₁.dicts⟩ hJ
end
-- 14_raise
theorem raisedSN_sub {base G : Heap} {l : List Env} {e : Addr} {cls : Value} {n₁ n₂ : List (Addr × Obj)} {h : Heap} (R : RaisedSN base G l e cls n₁ h) (hs : ∀ p ∈ n₂, p ∈ n₁) : RaisedSN base G l e cls n₂ h := by
  obtain ⟨B, a0, hB, hBG, hl, hfl⟩ := R
  exact ⟨B, a0, hB, hBG, fun q hq => hl q (hs q hq), hfl⟩
section
variable {w : World} {mean : ExcName → Option Value} {mg mb : Str → Option Value} {dp un : Nat} {gd : Option (List Code)} {cn : Str} {cs : Scope} {a : Addr} {ccd : Value} {cl : List (Str × Addr)} {outer : List Env} {A₀ : Around} {base h₀ : Heap} {L : Addr} {m : Str → Option Value} {Q E : Value → Shared → Prop} {news rest : List (Addr × Obj)} {g : Obj → List (Addr × Obj)}
variable {so zx zd og cu to en oc sa : Addr} {i : Int} {ti k1 k2 k3 k4 k5 : Tok} {e2 : Nat} {cvs : List Value} {bt : Bool}
local macro_rules | `(tactic| walk_at "call builtin:len") => `(tactic| walk_at "R2")
local macro_rules | `(tactic| walk_at "getAttr ref") => `(tactic| walk_at "R3")
local macro_rules | `(tactic| k_room) => `(tactic| ktr_room)
local macro_rules | `(tactic| walk_at "leaving ref") => `(tactic| (k_here; k_dflt (first
  | (refine' leave_onSN ?k1 ?k2 ?k3 ?k4 ?_; (case k3 => assumption); (case k1 => assumption); (case k2 => assumption); (case k4 => assumption); k_whole; intro h9 R9 V9 U9)
  | (refine' leave_hfS ?k1 ?k2 ?k3 ?kc ?kd ?k4 ?_; (case k1 => assumption); (case k2 => assumption); (case k3 => assumption); (case kc => rfl); (case kd => rfl); (case k4 => assumption); k_whole; intro h9 R9 U9)); (try dsimp only at R9 U9 ⊢)))
theorem shifted_r (B : Below A₀ base outer h₀) (F : Fr h₀ L s.heap m) (X : (KF w.params).In h₀)
  (N : News h₀ L s.heap ((zx, instObj 373 zd) :: (zd, zoneD w k1 k2 k3 k4 k5 og cu to en oc) :: (cu, listOf cvs.toArray e2) :: rest))
  (T : Top qv LS mean mg mb h₀) (hk : cs.kind = .function) (hdp : dp + 7 < recursionLimit) (hu : un + 100 < cLine)
  (hi : i = -1 ∨ i = 3) (hcl : cvs.length = 3)
  (ret : ∀ (e : Addr) (G h' : Heap) (tk' : Nat), Fr h₀ L G m → RaisedSN base G (envX cn cs L a ccd cl :: outer) e (.ref 65) ((zx, instObj 373 zd) :: (zd, zoneD w k1 k2 k3 k4 k5 og cu to en oc) :: (cu, listOf cvs.toArray e2) :: rest) h' → G.UpToSlots h' → E (.ref e) { s with heap := h', toks := tk' }) :
  wpAny (model PG w) (ktrTop dp un gd cn cs L a ccd cl outer) (call (.ref 35) [.ref so, .ref zx, .int i ti, .ref sa, .bool bt]) Q E s := by
  obtain ⟨ck, cn1, cg1, cc1, cm1⟩ := cs
  dsimp only at hk
  subst hk
  rcases hi with rfl | rfl
  all_goals refine wpAny_call ?_
  all_goals k_dflt k_enter
  all_goals (refine let_A ?_; intro A9)
  all_goals k_steps
  all_goals (k_dflt (refine' ret _ _ _ _ ?f ?r ?u; (case r => assumption); (case f => assumption); (case u => assumption)))
end
-- 15_stands
noncomputable abbrev ip (x y : Int) (t u : Tok) : Obj := tup [.int x t, .int y u]
noncomputable abbrev l2 (f g : Bool) (e : Nat) : Obj := listOf #[.bool f, .bool g] e
noncomputable abbrev l3 (a b c : Addr) (e : Nat) : Obj := listOf #[.ref a, .ref b, .ref c] e
section
variable {w : World} {mean : ExcName → Option Value} {mg mb : Str → Option Value} {dp un : Nat} {gd : Option (List Code)} {cn : Str} {cs : Scope} {a : Addr} {ccd : Value} {cl : List (Str × Addr)} {outer : List Env} {A₀ : Around} {base h₀ : Heap} {L : Addr} {m : Str → Option Value} {Q E : Value → Shared → Prop} {news rest : List (Addr × Obj)} {g : Obj → List (Addr × Obj)}
variable {zx zd og cu to en oc po du mk a0 a1 a2 b0 b1 b2 p0 p1 p2 q0 q1 q2 r0 r1 r2 : Addr} {x0 y0 x1 y1 x2 y2 X0 Y0 X1 Y1 X2 Y2 : Int} {k1 k2 k3 k4 k5 t0 t1 t2 t3 t4 t5 t6 t7 t8 t9 u0 u1 u2 u3 u4 u5 u6 u7 u8 u9 : Tok} {f0 g0 f1 g1 f2 g2 : Bool} {e0 e1 e2 e3 e4 e5 e6 e7 e8 e9 i0 i1 i2 i3 i4 i5 : Nat}
local macro_rules | `(tactic| k_room) => `(tactic| ktr_room)
local macro_rules | `(tactic| walk_at "getAttr ref") => `(tactic| walk_at "R6")
theorem stands_c (B : Below A₀ base outer h₀) (F : Fr h₀ L s.heap m) (X : (KF w.params).In h₀)
  (N : News h₀ L s.heap ((zx, instObj 373 zd) :: (zd, zoneD w k1 k2 k3 k4 k5 og cu to en oc) :: (og, l3 p0 p1 p2 e0) :: (cu, l3 a0 a1 a2 e1) :: (to, l3 q0 q1 q2 e2) :: (en, listOf #[.int 2 t9] e3) :: (oc, listOf #[.bool true, .bool true, .bool true] e4) :: (po, l3 p0 p1 p2 e5) :: (du, l3 b0 b1 b2 e6) :: (mk, l3 r0 r1 r2 e7) ::
    (a0, ip x0 y0 t0 u0) :: (a1, ip x1 y1 t1 u1) :: (a2, ip x2 y2 t2 u2) :: (b0, ip x0 y0 t3 u3) :: (b1, ip x1 y1 t4 u4) :: (b2, ip x2 y2 t5 u5) :: (p0, ip X0 Y0 t6 u6) :: (p1, ip X1 Y1 t7 u7) :: (p2, ip X2 Y2 t8 u8) ::
    (q0, l2 f0 g0 i0) :: (q1, l2 f1 g1 i1) :: (q2, l2 f2 g2 i2) :: (r0, l2 f0 g0 i3) :: (r1, l2 f1 g1 i4) :: (r2, l2 f2 g2 i5) :: rest))
  (T : Top qv LS mean mg mb h₀) (hk : cs.kind = .function) (hdp : dp + 7 < recursionLimit) (hu : un + 100 < cLine)
  (ret : ∀ (h' : Heap) (tk' : Nat), Fr h₀ L h' m → News h₀ L h' rest → Q (.bool true) { s with heap := h', toks := tk' }) :
  wpAny (model PG w) (ktrTop dp un gd cn cs L a ccd cl outer) (call (.ref 412) [.ref zx, .ref po, .ref du, .ref mk]) Q E s := by
  obtain ⟨ck, cn1, cg1, cc1, cm1⟩ := cs
  dsimp only at hk
  subst hk
  refine wpAny_call ?_
  k_dflt k_enter
  refine let_A ?_
  intro A9
  k_steps
  refine' ret _ _ (by assumption) (cb_drop (by assumption) ?hs)
  repeat (first | with_reducible exact fun _ h => h | refine tl_suba ?_)
end
-- 16_twin
def Twin (news : List (Addr × Obj)) (cvs dvs : List Value) : Prop := cvs.length = 3 ∧ dvs.length = 3 ∧ ∀ j, j < 3 → ∃ c d x y t u t' u', cvs[j]? = some (.ref c) ∧ dvs[j]? = some (.ref d) ∧ (c, ip x y t u) ∈ news ∧ (d, ip x y t' u') ∈ news
def TwinB (news : List (Addr × Obj)) (tvs mvs : List Value) : Prop := tvs.length = 3 ∧ mvs.length = 3 ∧ ∀ j, j < 3 → ∃ q r f g e e', tvs[j]? = some (.ref q) ∧ mvs[j]? = some (.ref r) ∧ (q, l2 f g e) ∈ news ∧ (r, l2 f g e') ∈ news
theorem three_of {α : Type} {l : List α} {a b c : α} (h : l.length = 3) (h0 : l[0]? = some a) (h1 : l[1]? = some b) (h2 : l[2]? = some c) : l = [a, b, c] := by
  match l, h with
  | [x, y, z], _ => simp at h0 h1 h2; rw [h0, h1, h2]
theorem Twin.set {news news' : List (Addr × Obj)} {cvs dvs : List Value} {i : Nat} {c d : Addr} {x y : Int} {t u t' u' : Tok} (W : Twin news cvs dvs) (hi : i < 3) (hc : (c, ip x y t u) ∈ news') (hd : (d, ip x y t' u') ∈ news')
    (keep : ∀ j, j < 3 → j ≠ i → ∀ c o, (cvs[j]? = some (.ref c) ∨ dvs[j]? = some (.ref c)) → (c, o) ∈ news → (c, o) ∈ news') : Twin news' (cvs.set i (.ref c)) (dvs.set i (.ref d)) := by
  obtain ⟨hl, hl', k⟩ := W
  refine ⟨by simp [hl], by simp [hl'], fun j hj => ?_⟩
  by_cases hji : i = j
  · subst hji
    exact ⟨c, d, x, y, t, u, t', u', by simp [hl, hi], by simp [hl', hi], hc, hd⟩
  · obtain ⟨c, d, x, y, t, u, t', u', h1, h2, h3, h4⟩ := k j hj
    exact ⟨c, d, x, y, t, u, t', u', by rw [List.getElem?_set_ne hji]; exact h1, by rw [List.getElem?_set_ne hji]; exact h2, keep j hj (Ne.symm hji) _ _ (.inl h1) h3, keep j hj (Ne.symm hji) _ _ (.inr h2) h4⟩
section
variable {w : World} {mean : ExcName → Option Value} {mg mb : Str → Option Value} {dp un : Nat} {gd : Option (List Code)} {cn : Str} {cs : Scope} {a : Addr} {ccd : Value} {cl : List (Str × Addr)} {outer : List Env} {A₀ : Around} {base h₀ : Heap} {L : Addr} {m : Str → Option Value} {Q E : Value → Shared → Prop} {whole : List (Addr × Obj)}
variable {zx zd og cu to en oc po du mk p0 p1 p2 : Addr} {X0 Y0 X1 Y1 X2 Y2 : Int} {k1 k2 k3 k4 k5 t6 t7 t8 t9 u6 u7 u8 : Tok} {e0 e1 e2 e3 e4 e5 e6 e7 : Nat} {cvs dvs tvs mvs : List Value}
theorem stands_t (B : Below A₀ base outer h₀) (F : Fr h₀ L s.heap m) (X : (KF w.params).In h₀) (N : News h₀ L s.heap whole)
  (T : Top qv LS mean mg mb h₀) (hk : cs.kind = .function) (hdp : dp + 7 < recursionLimit) (hu : un + 100 < cLine)
  (m1 : (zx, instObj 373 zd) ∈ whole) (m2 : (zd, zoneD w k1 k2 k3 k4 k5 og cu to en oc) ∈ whole) (m3 : (og, l3 p0 p1 p2 e0) ∈ whole) (m4 : (cu, listOf cvs.toArray e1) ∈ whole) (m5 : (to, listOf tvs.toArray e2) ∈ whole) (m6 : (en, listOf #[.int 2 t9] e3) ∈ whole) (m7 : (oc, listOf #[.bool true, .bool true, .bool true] e4) ∈ whole) (m8 : (po, l3 p0 p1 p2 e5) ∈ whole) (m9 : (du, listOf dvs.toArray e6) ∈ whole) (m10 : (mk, listOf mvs.toArray e7) ∈ whole)
  (P0 : (p0, ip X0 Y0 t6 u6) ∈ whole) (P1 : (p1, ip X1 Y1 t7 u7) ∈ whole) (P2 : (p2, ip X2 Y2 t8 u8) ∈ whole) (W : Twin whole cvs dvs) (V : TwinB whole tvs mvs)
  (ret : ∀ (h' : Heap) (tk' : Nat), Fr h₀ L h' m → News h₀ L h' whole → Q (.bool true) { s with heap := h', toks := tk' }) :
  wpAny (model PG w) (ktrTop dp un gd cn cs L a ccd cl outer) (call (.ref 412) [.ref zx, .ref po, .ref du, .ref mk]) Q E s := by
  obtain ⟨lc, ld, W⟩ := W
  obtain ⟨lt, lm, V⟩ := V
  obtain ⟨a0, b0, x0, y0, t0, u0, v0, w0, a0e, b0e, a0m, b0m⟩ := W 0 (by decide)
  obtain ⟨a1, b1, x1, y1, t1, u1, v1, w1, a1e, b1e, a1m, b1m⟩ := W 1 (by decide)
  obtain ⟨a2, b2, x2, y2, t2, u2, v2, w2, a2e, b2e, a2m, b2m⟩ := W 2 (by decide)
  obtain ⟨q0, r0, f0, g0, i0, j0, q0e, r0e, q0m, r0m⟩ := V 0 (by decide)
  obtain ⟨q1, r1, f1, g1, i1, j1, q1e, r1e, q1m, r1m⟩ := V 1 (by decide)
  obtain ⟨q2, r2, f2, g2, i2, j2, q2e, r2e, q2m, r2m⟩ := V 2 (by decide)
  obtain rfl := three_of lc a0e a1e a2e
  obtain rfl := three_of ld b0e b1e b2e
  obtain rfl := three_of lt q0e q1e q2e
  obtain rfl := three_of lm r0e r1e r2e
  have hin : ∀ p ∈ ((zx, instObj 373 zd) :: (zd, zoneD w k1 k2 k3 k4 k5 og cu to en oc) :: (og, l3 p0 p1 p2 e0) :: (cu, l3 a0 a1 a2 e1) :: (to, l3 q0 q1 q2 e2) :: (en, listOf #[.int 2 t9] e3) :: (oc, listOf #[.bool true, .bool true, .bool true] e4) :: (po, l3 p0 p1 p2 e5) :: (du, l3 b0 b1 b2 e6) :: (mk, l3 r0 r1 r2 e7) ::
    (a0, ip x0 y0 t0 u0) :: (a1, ip x1 y1 t1 u1) :: (a2, ip x2 y2 t2 u2) :: (b0, ip x0 y0 v0 w0) :: (b1, ip x1 y1 v1 w1) :: (b2, ip x2 y2 v2 w2) :: (p0, ip X0 Y0 t6 u6) :: (p1, ip X1 Y1 t7 u7) :: (p2, ip X2 Y2 t8 u8) ::
    (q0, l2 f0 g0 i0) :: (q1, l2 f1 g1 i1) :: (q2, l2 f2 g2 i2) :: (r0, l2 f0 g0 j0) :: (r1, l2 f1 g1 j1) :: (r2, l2 f2 g2 j2) :: whole), p ∈ whole := by
    intro p hp
    iterate 25 (rcases List.mem_cons.mp hp with rfl | hp; assumption)
    exact hp
  exact stands_c B F X (fun p hp => N p (hin p hp)) T hk hdp hu ret
end
-- 17_fd
noncomputable def fdAt (w : World) (f : Addr) : Option FuncData := match (KF w.params).lookup f with
  | some ⟨_, _, .func fd, _⟩ => some fd
  | _ => none
def loopBody (fd : FuncData) : List Stmt := match fd.body with
  | .stmts l => (l.findSome? fun s => match s with | .For _ _ b _ _ => some b | _ => none).getD []
  | _ => []
theorem withFn {K : Frag} {f : Addr} {P : Prop} {name qual : Str} {params : Arguments} {body : List Stmt} {scope : Scope} {dV kV doc pm cdv ct oc : Value} {an od : Option Addr} {osl : Array (Option Value)}
    (ho : K.lookup f = some ⟨oc, od, .func (fnOf name qual params body scope dV kV doc pm an cdv ct), osl⟩) (h : K.lookup f = some ⟨oc, od, .func (fnOf name qual params body scope dV kV doc pm an cdv ct), osl⟩ → P) : P := h ho
theorem fdAt_of {f : Addr} {w : World} {name qual : Str} {params : Arguments} {body : List Stmt} {scope : Scope} {dV kV doc pm cdv ct oc : Value} {an od : Option Addr} {osl : Array (Option Value)} (ho : (KF w.params).lookup f = some ⟨oc, od, .func (fnOf name qual params body scope dV kV doc pm an cdv ct), osl⟩) :
    fdAt w f = some (fnOf name qual params body scope dV kV doc pm an cdv ct) := by unfold fdAt; rw [ho]
def JoinI (s : Shared) (z : Int) (v : Value) (s' : Shared) : Prop := ∃ tt tk, v = Value.int z tt ∧ s' = { s with toks := tk }
def JoinB (s : Shared) (z : Bool) (v : Value) (s' : Shared) : Prop := ∃ tk, v = Value.bool z ∧ s' = { s with toks := tk }
section
variable {M : Model} {A : Around} {E : Value → Shared → Prop} {Q : Value → Shared → Prop} {t : Sem Value}
theorem join_i {z : Int} (h : wpAny M A t (JoinI s z) E s) (k : ∀ tt tk, Q (.int z tt) { s with toks := tk }) : wpAny M A t Q E s := wpAny_mono h (fun v s' h => by obtain ⟨tt, tk, rfl, rfl⟩ := h; exact k tt tk) fun _ _ x => x
theorem join_b {z : Bool} (h : wpAny M A t (JoinB s z) E s) (k : ∀ tk, Q (.bool z) { s with toks := tk }) : wpAny M A t Q E s := wpAny_mono h (fun v s' h => by obtain ⟨tk, rfl, rfl⟩ := h; exact k tk) fun _ _ x => x
theorem ite_pos {c : Prop} [Decidable c] {P P' : Prop} (hc : c) (h : P) : if c then P else P' := by rw [if_pos hc]; exact h
theorem joinI_y {c : Prop} [Decidable c] {z1 z2 : Int} {tt : Tok} {tk : Nat} (h : c) : JoinI s (if c then z1 else z2) (.int z1 tt) { s with toks := tk } := ⟨tt, tk, by rw [if_pos h], rfl⟩
theorem joinI_n {b : Bool} {z1 z2 : Int} {tt : Tok} {tk : Nat} (h : b = false) : JoinI s (if b = true then z1 else z2) (.int z2 tt) { s with toks := tk } := ⟨tt, tk, by rw [h]; rfl, rfl⟩
theorem joinB_1 {b c d : Bool} {tk : Nat} (h : b = true) : JoinB s (b || (c && d)) (.bool b) { s with toks := tk } := ⟨tk, by rw [h]; rfl, rfl⟩
theorem joinB_2 {b c d : Bool} {tk : Nat} (h : b = false) (h2 : c = false) : JoinB s (b || (c && d)) (.bool c) { s with toks := tk } := ⟨tk, by rw [h, h2]; rfl, rfl⟩
theorem joinB_3 {b c d : Bool} {tk : Nat} (h : b = false) (h2 : c = true) : JoinB s (b || (c && d)) (.bool d) { s with toks := tk } := ⟨tk, by rw [h, h2]; rfl, rfl⟩
end
theorem front4 {α : Type} {a1 a2 a3 a4 a5 a6 a7 a8 a9 a10 n1 n2 n3 n4 : α} {t : List α} : ∀ p ∈ a1 :: a2 :: a3 :: a4 :: a5 :: a6 :: a7 :: a8 :: a9 :: a10 :: n1 :: n2 :: n3 :: n4 :: t, p ∈ n1 :: n2 :: n3 :: n4 :: a1 :: a2 :: a3 :: a4 :: a5 :: a6 :: a7 :: a8 :: a9 :: a10 :: t :=
  sub_at (mx 4 rfl) (sub_at (mx 5 rfl) (sub_at (mx 6 rfl) (sub_at (mx 7 rfl) (sub_at (mx 8 rfl) (sub_at (mx 9 rfl) (sub_at (mx 10 rfl) (sub_at (mx 11 rfl) (sub_at (mx 12 rfl) (sub_at (mx 13 rfl) (sub_at (mx 0 rfl) (sub_at (mx 1 rfl) (sub_at (mx 2 rfl) (sub_at (mx 3 rfl) (fun _ h => .tail _ (.tail _ (.tail _ (.tail _ (.tail _ (.tail _ (.tail _ (.tail _ (.tail _ (.tail _ (.tail _ (.tail _ (.tail _ (.tail _ (h))))))))))))))))))))))))))))
def TwinX (rest : List (Addr × Obj)) (i : Nat) (cvs dvs : List Value) : Prop := ∀ j, j < 3 → i ≠ j → ∃ c d x y t u t' u', cvs[j]? = some (.ref c) ∧ dvs[j]? = some (.ref d) ∧ (c, ip x y t u) ∈ rest ∧ (d, ip x y t' u') ∈ rest
def TwinBX (rest : List (Addr × Obj)) (i : Nat) (tvs mvs : List Value) : Prop := ∀ j, j < 3 → i ≠ j → ∃ q r f g e e', tvs[j]? = some (.ref q) ∧ mvs[j]? = some (.ref r) ∧ (q, l2 f g e) ∈ rest ∧ (r, l2 f g e') ∈ rest
theorem TwinX.at {rest news : List (Addr × Obj)} {i : Nat} {cvs dvs : List Value} {c d : Addr} {x y x' y' : Int} {t u t' u' : Tok} (W : TwinX rest i cvs dvs) (hl : cvs.length = 3) (hl' : dvs.length = 3) (hi : i < 3) (ex : x = x') (ey : y = y') (hc : (c, ip x y t u) ∈ news) (hd : (d, ip x' y' t' u') ∈ news)
    (sub : ∀ p ∈ rest, p ∈ news) : Twin news (cvs.set i (.ref c)) (dvs.set i (.ref d)) := by
  subst ex ey
  refine ⟨by simp [hl], by simp [hl'], fun j hj => ?_⟩
  by_cases hji : i = j
  · subst hji
    exact ⟨c, d, x, y, t, u, t', u', by simp [hl, hi], by simp [hl', hi], hc, hd⟩
  · obtain ⟨c, d, x, y, t, u, t', u', h1, h2, h3, h4⟩ := W j hj hji
    exact ⟨c, d, x, y, t, u, t', u', by rw [List.getElem?_set_ne hji]; exact h1, by rw [List.getElem?_set_ne hji]; exact h2, sub _ h3, sub _ h4⟩
theorem TwinBX.at {rest news : List (Addr × Obj)} {i : Nat} {tvs mvs : List Value} {q r : Addr} {f g f' g' : Bool} {e e' : Nat} (W : TwinBX rest i tvs mvs) (hl : tvs.length = 3) (hl' : mvs.length = 3) (hi : i < 3) (hq : tvs[i]? = some (.ref q)) (ef : f = f') (eg : g = g') (hc : (q, l2 f g e) ∈ news) (hd : (r, l2 f' g' e') ∈ news)
    (sub : ∀ p ∈ rest, p ∈ news) : TwinB news tvs (mvs.set i (.ref r)) := by
  subst ef eg
  refine ⟨hl, by simp [hl'], fun j hj => ?_⟩
  by_cases hji : i = j
  · subst hji
    exact ⟨q, r, f, g, e, e', hq, by simp [hl', hi], hc, hd⟩
  · obtain ⟨q, r, f, g, e, e', h1, h2, h3, h4⟩ := W j hj hji
    exact ⟨q, r, f, g, e, e', h1, by rw [List.getElem?_set_ne hji]; exact h2, sub _ h3, sub _ h4⟩
theorem mv_is {f v d : Int} {b : Bool} (hb : b = decide (f ≠ 0)) : w32 (mv f v d) = w32 (v + if b = true then d else 0) := by
  subst hb
  unfold mv
  by_cases h : f = 0 <;> simp [h]
theorem tch_is {b t c : Bool} {f : Int} (hc : c = decide (f ≠ 0)) : tch b t f = (b || (t && c)) := by
  subst hc; rfl
def InL (p : Addr × Obj) (l : List (Addr × Obj)) : Prop := p ∈ l
theorem InL.mem {p : Addr × Obj} {l : List (Addr × Obj)} (h : InL p l) : p ∈ l := h
theorem sub_cons9 {α : Type} {x : α} {r l : List α} (h : x ∈ l) (h' : ∀ p ∈ r, p ∈ l) : ∀ p ∈ x :: r, p ∈ l := fun p hp => by
  rcases List.mem_cons.mp hp with h2 | h2
  · exact h2 ▸ h
  · exact h' p h2
-- 18_point
theorem sub18 {α : Type} {x0 x1 x2 x3 x4 x5 x6 x7 x8 x9 x10 x11 x12 x13 x14 x15 x16 x17 x18 x19 x20 x21 x22 x23 x24 x25 : α} {r : List α} : ∀ p ∈ x0 :: x12 :: x11 :: x1 :: x2 :: x3 :: x4 :: x5 :: x6 :: x7 :: x8 :: x9 :: x10 :: x15 :: x16 :: x17 :: x18 :: x19 :: x20 :: x21 :: x22 :: x23 :: x24 :: x25 :: r, p ∈ x0 :: x1 :: x2 :: x3 :: x4 :: x5 :: x6 :: x7 :: x8 :: x9 :: x10 :: x11 :: x12 :: x13 :: x14 :: x15 :: x16 :: x17 :: x18 :: x19 :: x20 :: x21 :: x22 :: x23 :: x24 :: x25 :: r :=
  sub_at (mx 0 rfl) (sub_at (mx 12 rfl) (sub_at (mx 11 rfl) (sub_at (mx 1 rfl) (sub_at (mx 2 rfl) (sub_at (mx 3 rfl) (sub_at (mx 4 rfl) (sub_at (mx 5 rfl) (sub_at (mx 6 rfl) (sub_at (mx 7 rfl) (sub_at (mx 8 rfl) (sub_at (mx 9 rfl) (sub_at (mx 10 rfl) (sub_at (mx 15 rfl) (sub_at (mx 16 rfl) (sub_at (mx 17 rfl) (sub_at (mx 18 rfl) (sub_at (mx 19 rfl) (sub_at (mx 20 rfl) (sub_at (mx 21 rfl) (sub_at (mx 22 rfl) (sub_at (mx 23 rfl) (sub_at (mx 24 rfl) (sub_at (mx 25 rfl) (fun _ h => .tail _ (.tail _ (.tail _ (.tail _ (.tail _ (.tail _ (.tail _ (.tail _ (.tail _ (.tail _ (.tail _ (.tail _ (.tail _ (.tail _ (.tail _ (.tail _ (.tail _ (.tail _ (.tail _ (.tail _ (.tail _ (.tail _ (.tail _ (.tail _ (.tail _ (.tail _ (h))))))))))))))))))))))))))))))))))))))))))))))))))
section
variable {w : World} {mean : ExcName → Option Value} {mg mb : Str → Option Value} {dp un : Nat} {gd : Option (List Code)} {cn : Str} {cs : Scope} {a : Addr} {ccd : Value} {cl : List (Str × Addr)} {base h₀ : Heap} {L L₁ : Addr} {m : Str → Option Value} {Q : Flow → Shared → Prop} {E : Value → Shared → Prop} {rest : List (Addr × Obj)} {fd : FuncData}
variable {p0 p1 p2 : Addr} {P0x P0y P1x P1y P2x P2y : Int} {t6 t7 t8 t9 u6 u7 u8 : Tok} {e9 e10 e11 e12 : Nat}
variable {o1 o2 o3 o4 o5 o6 : Obj} {so sd fr zx zd og cu to en oc du mk fl sa ci di qi ri po : Addr} {fx fy X0 Y0 sx sy i : Int} {tfx tfy tX tY uX uY tsx tsy ti k1 k2 k3 k4 k5 : Tok} {es : List DictEntry} {ne e2 e3 e4 e5 e6 e7 e8 : Nat} {cvs tvs dvs mvs : List Value} {bA bB bt f0 f1 : Bool}
local macro_rules | `(tactic| k_room) => `(tactic| ktr_room)
local macro_rules | `(tactic| walk_at "subscriptTail") => `(tactic| walk_at "R4")
local macro_rules | `(tactic| walk_at "setItem ref int") => `(tactic| walk_at "R5")
local macro_rules | `(tactic| walk_at "CompSrc") => `(tactic| walk_at "R7")
local macro_rules | `(tactic| walk_at "JoinI") => `(tactic| k_dflt (first | exact joinI_y (by assumption) | exact joinI_n (by assumption)))
local macro_rules | `(tactic| walk_at "JoinB") => `(tactic| k_dflt (first | exact joinB_1 (by assumption) | exact joinB_3 (by assumption) (by assumption) | exact joinB_2 (by assumption) (by assumption)))
set_option hygiene false in
local macro_rules | `(tactic| walk_at "eval IfExp") => `(tactic| (k_here; (fail_if_success (with_reducible show wpAny _ _ _ (JoinI _ _) _ _)); first
  | (k_dflt (refine' join_i (z := if f0 = true then sx else 0) ?h9 ?_; (case h9 => (k_steps; done)); k_whole); intro tt tk; (try dsimp only))
  | (k_dflt (refine' join_i (z := if f1 = true then sy else 0) ?h9 ?_; (case h9 => (k_steps; done)); k_whole); intro tt tk; (try dsimp only))))
set_option hygiene false in
local macro_rules | `(tactic| walk_at "eval BoolOp") => `(tactic| (k_here; (with_reducible show wpAny _ _ (eval (Expr.BoolOp _ _ _) (compEnvC _ _ _ _)) _ _ _); (fail_if_success (with_reducible show wpAny _ _ _ (JoinB _ _) _ _)); first
  | (k_dflt (refine' join_b (z := bA || (bt && f0)) ?h9 ?_; (case h9 => (k_steps; done)); k_whole); intro tk; (try dsimp only))
  | (k_dflt (refine' join_b (z := bB || (bt && f1)) ?h9 ?_; (case h9 => (k_steps; done)); k_whole); intro tk; (try dsimp only))))
local macro_rules | `(tactic| walk_at "exec Try") => `(tactic| walk_at "R8")
local macro_rules | `(tactic| walk_at "call ref") => `(tactic| (k_here; (with_reducible show wpAny _ _ (call (Value.ref 35) _) _ _ _); refine Hold.out ?_))
local macro_rules | `(tactic| walk_at "eval Name") => `(tactic| walk_at "R9")
local macro_rules | `(tactic| walk_at "TL9") => `(tactic| (repeat (first | exact InL.mem (by with_reducible assumption) | (refine List.Mem.tail _ ?_))))
local macro_rules | `(tactic| walk_at "SUB9") => `(tactic| (repeat (first | with_reducible exact fun _ h => h | refine tl_suba ?_)))
local macro_rules | `(tactic| walk_at "call ref") => `(tactic| (k_here; (with_reducible show wpAny _ _ (call (Value.ref 412) _) _ _ _); refine Hold.out ?_))
theorem point_c (hfd : fdAt w 417 = some fd) (B : Below (ktrTop dp un gd cn cs L₁ a ccd cl []) base [envX cn cs L₁ a ccd cl] h₀) (F : Fr h₀ L s.heap m) (X : (KF w.params).In h₀)
  (N : News h₀ L s.heap ((so, instObj 203 sd) :: (sd, dictOf es ne) :: (fr, tup [.int fx tfx, .int fy tfy]) :: (zx, instObj 373 zd) :: (zd, zoneD w k1 k2 k3 k4 k5 og cu to en oc) :: (cu, listOf cvs.toArray e2) :: (ci, ip X0 Y0 tX tY) :: (to, listOf tvs.toArray e3) :: (qi, l2 bA bB e4) :: (sa, ip sx sy tsx tsy) :: (du, listOf dvs.toArray e5) :: (di, ip X0 Y0 uX uY) :: (mk, listOf mvs.toArray e6) :: (ri, l2 bA bB e7) :: (fl, l2 f0 f1 e8) :: (L + 1, o1) :: (L + 2, o2) :: (L + 3, o3) :: (L + 4, o4) :: (L + 5, o5) :: (L + 6, o6) :: rest))
  (T : Top qv LS mean mg mb h₀) (hk : cs.kind = .function) (hdp : dp + 9 < recursionLimit) (hu : un + 200 < cLine)
  (h1 : o1.data = .cell (some (.ref du))) (h2 : o2.data = .cell (some (.ref mk))) (h3 : o3.data = .cell (some (.ref fl))) (h4 : o4.data = .cell (some (.int i ti))) (h5 : o5.data = .cell (some (.ref sa))) (h6 : o6.data = .cell (some (.bool bt)))
  (W : TwinX rest i.toNat cvs dvs) (V : TwinBX rest i.toNat tvs mvs) (m3 : InL (og, l3 p0 p1 p2 e9) rest) (m6 : InL (en, listOf #[.int 2 t9] e10) rest) (m7 : InL (oc, listOf #[.bool true, .bool true, .bool true] e11) rest) (m8 : InL (po, l3 p0 p1 p2 e12) rest) (P0 : InL (p0, ip P0x P0y t6 u6) rest) (P1 : InL (p1, ip P1x P1y t7 u7) rest) (P2 : InL (p2, ip P2x P2y t8 u8) rest)
  (hms : m (Str.ofString "state") = some (.ref so)) (hmz : m (Str.ofString "zone") = some (.ref zx)) (hmo : m (Str.ofString "old") = some (.ref po))
  (hany : ([0, 1, 2].any fun x => x == i) = true) (hfr : getL (Str.ofString "freedom") es = some (some (.ref fr))) (hf0 : f0 = decide (fx ≠ 0)) (hf1 : f1 = decide (fy ≠ 0)) (hi0 : 0 ≤ i) (hi2 : i < 3) (hcl : cvs.length = 3) (htl : tvs.length = 3) (hdl : dvs.length = 3) (hml : mvs.length = 3)
  (hci : cvs[i.toNat]? = some (.ref ci)) (hqi : tvs[i.toNat]? = some (.ref qi)) (hdi : dvs[i.toNat]? = some (.ref di)) (hri : mvs[i.toNat]? = some (.ref ri))
  (ncu : NeA cu (so :: sd :: fr :: zx :: zd :: ci :: to :: qi :: sa :: du :: di :: mk :: ri :: fl :: (L + 1) :: (L + 2) :: (L + 3) :: (L + 4) :: (L + 5) :: (L + 6) :: rest.map (·.1))) (nqi : NeA qi (so :: sd :: fr :: zx :: zd :: cu :: ci :: to :: sa :: du :: di :: mk :: ri :: fl :: (L + 1) :: (L + 2) :: (L + 3) :: (L + 4) :: (L + 5) :: (L + 6) :: rest.map (·.1))) (ndu : NeA du (so :: sd :: fr :: zx :: zd :: cu :: ci :: to :: qi :: sa :: di :: mk :: ri :: fl :: (L + 1) :: (L + 2) :: (L + 3) :: (L + 4) :: (L + 5) :: (L + 6) :: rest.map (·.1))) (nmk : NeA mk (so :: sd :: fr :: zx :: zd :: cu :: ci :: to :: qi :: sa :: du :: di :: ri :: fl :: (L + 1) :: (L + 2) :: (L + 3) :: (L + 4) :: (L + 5) :: (L + 6) :: rest.map (·.1)))
  (ret : ∀ (n n2 r : Addr) (t1 t2 t3 t4 : Tok) (e' : Nat) (m' : Str → Option Value) (h' : Heap) (tk' : Nat), Fr h₀ L h' m' → m' (Str.ofString "state") = some (.ref so) → m' (Str.ofString "zone") = some (.ref zx) → m' (Str.ofString "old") = some (.ref po) →
    News h₀ L h' ((n, ip (w32 (mv fx X0 sx)) (w32 (mv fy Y0 sy)) t1 t2) :: (n2, ip (w32 (X0 + if f0 = true then sx else 0)) (w32 (Y0 + if f1 = true then sy else 0)) t3 t4) :: (r, l2 (bA || (bt && f0)) (bB || (bt && f1)) e') :: (so, instObj 203 sd) :: (sd, dictOf es ne) :: (fr, tup [.int fx tfx, .int fy tfy]) :: (zx, instObj 373 zd) :: (zd, zoneD w k1 k2 k3 k4 k5 og cu to en oc) :: (cu, listOf (cvs.set i.toNat (.ref n)).toArray e2) :: (ci, ip X0 Y0 tX tY) :: (to, listOf tvs.toArray e3) :: (qi, l2 (tch bA bt fx) (tch bB bt fy) e4) :: (sa, ip sx sy tsx tsy) :: (du, listOf (dvs.set i.toNat (.ref n2)).toArray e5) :: (di, ip X0 Y0 uX uY) :: (mk, listOf (mvs.set i.toNat (.ref r)).toArray e6) :: (ri, l2 bA bB e7) :: (fl, l2 f0 f1 e8) :: (L + 1, o1) :: (L + 2, o2) :: (L + 3, o3) :: (L + 4, o4) :: (L + 5, o5) :: (L + 6, o6) :: rest) →
    NeA n (so :: sd :: fr :: zx :: zd :: cu :: ci :: to :: qi :: sa :: du :: di :: mk :: ri :: fl :: (L + 1) :: (L + 2) :: (L + 3) :: (L + 4) :: (L + 5) :: (L + 6) :: rest.map (·.1)) → NeA n2 (so :: sd :: fr :: zx :: zd :: cu :: ci :: to :: qi :: sa :: du :: di :: mk :: ri :: fl :: (L + 1) :: (L + 2) :: (L + 3) :: (L + 4) :: (L + 5) :: (L + 6) :: rest.map (·.1)) → NeA r (so :: sd :: fr :: zx :: zd :: cu :: ci :: to :: qi :: sa :: du :: di :: mk :: ri :: fl :: (L + 1) :: (L + 2) :: (L + 3) :: (L + 4) :: (L + 5) :: (L + 6) :: rest.map (·.1)) → Q .next { s with heap := h', toks := tk' }) :
  wpAny (model PG w) ((ktrTop dp un gd cn cs L₁ a ccd cl []).deeper (envOfC fd.qualname fd.scope L 417 fd.code)) (execs (loopBody fd) (envOfC fd.qualname fd.scope L 417 fd.code)) Q E s := by
  obtain ⟨ck, cn1, cg1, cc1, cm1⟩ := cs
  dsimp only at hk
  subst hk
  refine' withFn (K := KF w.params) (f := 417) ?ho ?h
  case ho => k_is
  intro e
  have e' := fdAt_of e
  rw [hfd] at e'
  obtain rfl := Option.some.inj e'
  clear e e' hfd
  dsimp only [loopBody, List.findSome?, Option.getD]
  have nf : NoFold := trivial
  iterate 15 (first | (k_unfold; (try dsimp only)) | walk1)
  simp only [hany]
  refine (?_ : _)
  k_steps
  unfold Hold
  k_dflt (refine' shifted_c ?k1 ?k2 ?k3 (cb_drop ?k4 front4) ?k5 ?kK ?kd ?ku ?kf ?i0 ?i2 ?l1 ?l2 ?ci ?qi ?nc ?nq ?_; walk_at "K8"; (case kf => assumption); (case i0 => assumption); (case i2 => assumption); (case l1 => assumption); (case l2 => assumption); (case ci => assumption); (case qi => assumption); (case nc => repeat (first | exact nea_rest (by k_all) | refine nea_cons (by k_ne) ?_)); (case nq => repeat (first | exact nea_rest (by k_all) | refine nea_cons (by k_ne) ?_)); k_whole)
  intro n9 t9 u9 h9 tk9 F9 N9 l9
  (try dsimp only [List.map_cons] at l9)
  (try dsimp only)
  k_steps
  unfold Hold
  k_dflt (refine' stands_t ?k1 ?k2 ?k3 ?k4 ?k5 ?kK ?kd ?ku ?m1 ?m2 ?m3 ?m4 ?m5 ?m6 ?m7 ?m8 ?m9 ?m10 ?P0 ?P1 ?P2 ?W ?V ?_; walk_at "K8"; (case m1 => k_mem); (case m2 => k_mem); (case m3 => walk_at "TL9"); (case m4 => k_mem); (case m5 => k_mem); (case m6 => walk_at "TL9"); (case m7 => walk_at "TL9"); (case m8 => walk_at "TL9"); (case m9 => k_mem); (case m10 => k_mem); (case P0 => walk_at "TL9"); (case P1 => walk_at "TL9"); (case P2 => walk_at "TL9"); (case W => (refine' TwinX.at (by assumption) (by assumption) (by assumption) (by omega) ?x ?y ?c ?d ?s; (case c => k_mem); (case d => k_mem); (case x => exact mv_is (by assumption)); (case y => exact mv_is (by assumption)); (case s => walk_at "SUB9"))); (case V => (refine' TwinBX.at (by assumption) (by assumption) (by assumption) (by omega) (by assumption) ?x ?y ?c ?d ?s; (case c => k_mem); (case d => k_mem); (case x => exact tch_is (by assumption)); (case y => exact tch_is (by assumption)); (case s => walk_at "SUB9"))); k_whole)
  intro h9 tk9 F9 N9
  (try dsimp only)
  k_steps
  refine' ret _ _ _ _ _ _ _ _ _ _ _ (by assumption) ?s1 ?s2 ?s3 (cb_drop (by assumption) sub18) ?n1 ?n2 ?n3
  case s1 => (repeat rw [if_neg (by decide)]); assumption
  case s2 => (repeat rw [if_neg (by decide)]); assumption
  case s3 => (repeat rw [if_neg (by decide)]); assumption
  all_goals (repeat (first | exact nea_rest (by k_all) | refine nea_cons (by k_ne) ?_))
end
local macro_rules | `(tactic| walk_at "R10") => `(tactic| (repeat (first | exact InL.mem (by with_reducible assumption) | (refine List.Mem.tail _ ?_))))
local macro_rules | `(tactic| walk_at "R11") => `(tactic| (repeat (first | with_reducible exact fun _ h => h | refine tl_suba ?_)))
-- 19_out
theorem Twin.mono {n1 n2 : List (Addr × Obj)} {cvs dvs : List Value} (W : Twin n1 cvs dvs) (h : ∀ p ∈ n1, p ∈ n2) : Twin n2 cvs dvs := by
  obtain ⟨a, b, k⟩ := W
  refine ⟨a, b, fun j hj => ?_⟩
  obtain ⟨c, d, x, y, t, u, t', u', h1, h2, h3, h4⟩ := k j hj
  exact ⟨c, d, x, y, t, u, t', u', h1, h2, h _ h3, h _ h4⟩
theorem TwinB.mono {n1 n2 : List (Addr × Obj)} {cvs dvs : List Value} (W : TwinB n1 cvs dvs) (h : ∀ p ∈ n1, p ∈ n2) : TwinB n2 cvs dvs := by
  obtain ⟨a, b, k⟩ := W
  refine ⟨a, b, fun j hj => ?_⟩
  obtain ⟨q, r, f, g, e, e', h1, h2, h3, h4⟩ := k j hj
  exact ⟨q, r, f, g, e, e', h1, h2, h _ h3, h _ h4⟩
theorem back1 {α : Type} {a1 a2 a3 n : α} {t : List α} : ∀ p ∈ a1 :: a2 :: a3 :: t, p ∈ a1 :: a2 :: a3 :: n :: t :=
  sub_at (mx 0 rfl) (sub_at (mx 1 rfl) (sub_at (mx 2 rfl) (fun _ h => .tail _ (.tail _ (.tail _ (.tail _ (h)))))))
theorem front1 {α : Type} {a1 a2 a3 n : α} {t : List α} : ∀ p ∈ a1 :: a2 :: a3 :: n :: t, p ∈ n :: a1 :: a2 :: a3 :: t :=
  sub_at (mx 1 rfl) (sub_at (mx 2 rfl) (sub_at (mx 3 rfl) (sub_at (mx 0 rfl) (fun _ h => .tail _ (.tail _ (.tail _ (.tail _ (h))))))))
section
variable {w : World} {mean : ExcName → Option Value} {mg mb : Str → Option Value} {dp un : Nat} {gd : Option (List Code)} {cn : Str} {cs : Scope} {a : Addr} {ccd : Value} {cl : List (Str × Addr)} {base h₀ : Heap} {L L₁ : Addr} {m : Str → Option Value} {Q : Flow → Shared → Prop} {E : Value → Shared → Prop} {rest : List (Addr × Obj)} {fd : FuncData}
variable {p0 p1 p2 : Addr} {P0x P0y P1x P1y P2x P2y : Int} {t6 t7 t8 t9 u6 u7 u8 : Tok} {e9 e10 e11 e12 : Nat}
variable {o1 o2 o3 o4 o5 o6 : Obj} {so sd fr zx zd og cu to en oc du mk fl sa ci di qi ri po : Addr} {fx fy X0 Y0 sx sy i : Int} {tfx tfy tX tY uX uY tsx tsy ti k1 k2 k3 k4 k5 : Tok} {es : List DictEntry} {ne e2 e3 e4 e5 e6 e7 e8 : Nat} {cvs tvs dvs mvs : List Value} {bA bB bt f0 f1 : Bool}
local macro_rules | `(tactic| k_room) => `(tactic| ktr_room)
local macro_rules | `(tactic| walk_at "exec Try") => `(tactic| walk_at "R8")
local macro_rules | `(tactic| walk_at "call ref") => `(tactic| (k_here; (with_reducible show wpAny _ _ (call (Value.ref 35) _) _ _ _); refine Hold.out ?_))
local macro_rules | `(tactic| walk_at "noteFrame ref") => `(tactic| (k_here; k_dflt (refine' caught_hf ?R ?F ?K ?U ?XB ?TB ?D ?T0 ?ex ?_; (case R => assumption); (case F => assumption); (case K => assumption); (case U => assumption); (case XB => assumption); (case TB => assumption); (case D => assumption); (case T0 => first | assumption | exact KtsTurn.refl); (case ex => k_is); k_whole); intro h' g' T' F' N' K' X' P' D'; (try k_lift K'); (try k_sweep)))
local macro_rules | `(tactic| walk_at "TL9") => `(tactic| walk_at "R10")
local macro_rules | `(tactic| walk_at "SUB9") => `(tactic| walk_at "R11")
local macro_rules | `(tactic| walk_at "eval Name") => `(tactic| walk_at "R9")
local macro_rules | `(tactic| walk_at "call ref") => `(tactic| (k_here; (with_reducible show wpAny _ _ (call (Value.ref 412) _) _ _ _); refine Hold.out ?_))
theorem out_c (hfd : fdAt w 417 = some fd) (B : Below (ktrTop dp un gd cn cs L₁ a ccd cl []) base [envX cn cs L₁ a ccd cl] h₀) (F : Fr h₀ L s.heap m) (X : (KF w.params).In h₀)
  (XB : (KF w.params).In base) (TB : Top qv LS mean mg mb base) (D : KtsDicts ([envX cn cs L₁ a ccd cl].filterMap (·.frame)) h₀)
  (N : News h₀ L s.heap ((zx, instObj 373 zd) :: (zd, zoneD w k1 k2 k3 k4 k5 og cu to en oc) :: (cu, listOf cvs.toArray e2) :: (to, listOf tvs.toArray e3) :: (sa, ip sx sy tsx tsy) :: (du, listOf dvs.toArray e5) :: (mk, listOf mvs.toArray e6) :: (L + 1, o1) :: (L + 2, o2) :: (L + 3, o3) :: (L + 4, o4) :: (L + 5, o5) :: (L + 6, o6) :: rest))
  (T : Top qv LS mean mg mb h₀) (hk : cs.kind = .function) (hdp : dp + 9 < recursionLimit) (hu : un + 200 < cLine)
  (h1 : o1.data = .cell (some (.ref du))) (h2 : o2.data = .cell (some (.ref mk))) (h4 : o4.data = .cell (some (.int i ti))) (h5 : o5.data = .cell (some (.ref sa))) (h6 : o6.data = .cell (some (.bool bt)))
  (W : Twin rest cvs dvs) (V : TwinB rest tvs mvs) (m3 : InL (og, l3 p0 p1 p2 e9) rest) (m6 : InL (en, listOf #[.int 2 t9] e10) rest) (m7 : InL (oc, listOf #[.bool true, .bool true, .bool true] e11) rest) (m8 : InL (po, l3 p0 p1 p2 e12) rest) (P0 : InL (p0, ip P0x P0y t6 u6) rest) (P1 : InL (p1, ip P1x P1y t7 u7) rest) (P2 : InL (p2, ip P2x P2y t8 u8) rest)
  (hms : m (Str.ofString "state") = some (.ref so)) (hmz : m (Str.ofString "zone") = some (.ref zx)) (hmo : m (Str.ofString "old") = some (.ref po))
  (hany : ([0, 1, 2].any fun x => x == i) = false) (hi : i = -1 ∨ i = 3) (hcl : cvs.length = 3)
  (ret : ∀ (g' : Heap) (m' : Str → Option Value) (h' : Heap) (tk' : Nat), KtsTurn ([envX cn cs L₁ a ccd cl].filterMap (·.frame)) h₀ g' → Fr g' L h' m' → m' (Str.ofString "state") = some (.ref so) → m' (Str.ofString "zone") = some (.ref zx) → m' (Str.ofString "old") = some (.ref po) →
    News g' L h' ((zx, instObj 373 zd) :: (zd, zoneD w k1 k2 k3 k4 k5 og cu to en oc) :: (cu, listOf cvs.toArray e2) :: (to, listOf tvs.toArray e3) :: (sa, ip sx sy tsx tsy) :: (du, listOf dvs.toArray e5) :: (mk, listOf mvs.toArray e6) :: (L + 1, o1) :: (L + 2, o2) :: (L + 3, o3) :: (L + 4, o4) :: (L + 5, o5) :: (L + 6, o6) :: rest) → Below (ktrTop dp un gd cn cs L₁ a ccd cl []) base [envX cn cs L₁ a ccd cl] g' → (KF w.params).In g' → Top qv LS mean mg mb g' → KtsDicts ([envX cn cs L₁ a ccd cl].filterMap (·.frame)) g' → Q .next { s with heap := h', toks := tk' }) :
  wpAny (model PG w) ((ktrTop dp un gd cn cs L₁ a ccd cl []).deeper (envOfC fd.qualname fd.scope L 417 fd.code)) (execs (loopBody fd) (envOfC fd.qualname fd.scope L 417 fd.code)) Q (fun _ _ => False) s := by
  obtain ⟨ck, cn1, cg1, cc1, cm1⟩ := cs
  dsimp only at hk
  subst hk
  refine' withFn (K := KF w.params) (f := 417) ?ho ?h
  case ho => k_is
  intro e
  have e' := fdAt_of e
  rw [hfd] at e'
  obtain rfl := Option.some.inj e'
  clear e e' hfd
  dsimp only [loopBody, List.findSome?, Option.getD]
  iterate 15 (first | (k_unfold; (try dsimp only)) | walk1)
  simp only [hany]
  refine (?_ : _)
  k_steps
  unfold Hold
  k_dflt (refine' shifted_r ?k1 ?k2 ?k3 (cb_drop ?k4 front1) ?k5 ?kK ?kd ?ku ?ki ?kl ?_; walk_at "K8"; (case ki => assumption); (case kl => assumption); k_whole)
  intro e9 G9 h9 tk9 F9 R9 U9
  (try dsimp only)
  k_steps
  unfold Hold
  k_dflt (refine' stands_t ?k1 ?k2 ?k3 ?k4 ?k5 ?kK ?kd ?ku ?m1 ?m2 ?m3 ?m4 ?m5 ?m6 ?m7 ?m8 ?m9 ?m10 ?P0 ?P1 ?P2 ?W ?V ?_; walk_at "K8"; (case m1 => k_mem); (case m2 => k_mem); (case m3 => walk_at "TL9"); (case m4 => k_mem); (case m5 => k_mem); (case m6 => walk_at "TL9"); (case m7 => walk_at "TL9"); (case m8 => walk_at "TL9"); (case m9 => k_mem); (case m10 => k_mem); (case P0 => walk_at "TL9"); (case P1 => walk_at "TL9"); (case P2 => walk_at "TL9"); (case W => (refine' Twin.mono (by assumption) ?s; (case s => walk_at "SUB9"))); (case V => (refine' TwinB.mono (by assumption) ?s; (case s => walk_at "SUB9"))); k_whole)
  intro h9 tk9 F9 N9
  (try dsimp only)
  k_steps
  refine' ret _ _ _ _ (by assumption) (by assumption) ?s1 ?s2 ?s3 (cb_drop (by assumption) back1) (by assumption) (by assumption) (by assumption) (by assumption)
  case s1 => (repeat rw [if_neg (by decide)]); assumption
  case s2 => (repeat rw [if_neg (by decide)]); assumption
  case s3 => (repeat rw [if_neg (by decide)]); assumption
end
-- 20_turn
theorem news_add {h₀ h : Heap} {L : Addr} {l : List (Addr × Obj)} {p : Addr × Obj} (N : News h₀ L h l) (hp : p ∈ l) : News h₀ L h (p :: l) := fun q hq => by
  rcases List.mem_cons.mp hq with rfl | hq
  · exact N _ hp
  · exact N _ hq
structure Deed where
  (a sa : Addr) (i x y : Int) (ti tx ty : Tok) (b : Bool)
noncomputable abbrev Deed.val (d : Deed) : Value := .ref d.a
noncomputable abbrev Deed.led (d : Deed) : List (Addr × Obj) := [(d.a, tup [.int d.i d.ti, .ref d.sa, .bool d.b]), (d.sa, ip d.x d.y d.tx d.ty)]
def loopTarget (fd : FuncData) : Option PySem.Expr := match fd.body with
  | .stmts l => l.findSome? fun s => match s with | .For t _ _ _ _ => some t | _ => none
  | _ => none
structure Cfg where
  (L so sd fr zx zd og cu to en oc du km fl po p0 p1 p2 q0 q1 q2 : Addr) (fx fy P0x P0y P1x P1y P2x P2y : Int) (tfx tfy k1 k2 k3 k4 k5 t6 t7 t8 t9 u6 u7 u8 : Tok) (es : List DictEntry) (ne e2 e3 e5 e6 e8 e9 e10 e11 e12 eq0 eq1 eq2 : Nat) (f0 f1 : Bool) (o1 o2 o3 : Obj) (keep : List (Addr × Obj))
structure Pts where
  (c0 c1 c2 d0 d1 d2 r0 r1 r2 : Addr) (x0 y0 x1 y1 x2 y2 : Int) (tx0 ty0 tx1 ty1 tx2 ty2 ux0 uy0 ux1 uy1 ux2 uy2 : Tok) (a0 b0 a1 b1 a2 b2 : Bool) (er0 er1 er2 : Nat)
noncomputable abbrev Cfg.led (w : World) (c : Cfg) (p : Pts) (o4 o5 o6 : Obj) : List (Addr × Obj) :=
  (c.so, instObj 203 c.sd) :: (c.sd, dictOf c.es c.ne) :: (c.fr, tup [.int c.fx c.tfx, .int c.fy c.tfy]) :: (c.zx, instObj 373 c.zd) :: (c.zd, zoneD w c.k1 c.k2 c.k3 c.k4 c.k5 c.og c.cu c.to c.en c.oc) :: (c.cu, l3 p.c0 p.c1 p.c2 c.e2) :: (c.to, l3 c.q0 c.q1 c.q2 c.e3) :: (c.du, l3 p.d0 p.d1 p.d2 c.e5) :: (c.km, l3 p.r0 p.r1 p.r2 c.e6) :: (c.fl, l2 c.f0 c.f1 c.e8) :: ((c.L + 1), c.o1) :: ((c.L + 2), c.o2) :: ((c.L + 3), c.o3) :: ((c.L + 4), o4) :: ((c.L + 5), o5) :: ((c.L + 6), o6) :: (p.c0, ip p.x0 p.y0 p.tx0 p.ty0) :: (p.c1, ip p.x1 p.y1 p.tx1 p.ty1) :: (p.c2, ip p.x2 p.y2 p.tx2 p.ty2) :: (p.d0, ip p.x0 p.y0 p.ux0 p.uy0) :: (p.d1, ip p.x1 p.y1 p.ux1 p.uy1) :: (p.d2, ip p.x2 p.y2 p.ux2 p.uy2) :: (c.q0, l2 p.a0 p.b0 c.eq0) :: (c.q1, l2 p.a1 p.b1 c.eq1) :: (c.q2, l2 p.a2 p.b2 c.eq2) :: (p.r0, l2 p.a0 p.b0 p.er0) :: (p.r1, l2 p.a1 p.b1 p.er1) :: (p.r2, l2 p.a2 p.b2 p.er2) :: c.keep
noncomputable abbrev Cfg.adr (c : Cfg) (p : Pts) : List Addr := [c.so, c.sd, c.fr, c.zx, c.zd, c.cu, c.to, c.du, c.km, c.fl, (c.L + 1), (c.L + 2), (c.L + 3), (c.L + 4), (c.L + 5), (c.L + 6), p.c0, p.c1, p.c2, p.d0, p.d1, p.d2, c.q0, c.q1, c.q2, p.r0, p.r1, p.r2]
structure St (c : Cfg) (p : Pts) (m : Str → Option Value) : Prop where
  ms : m (Str.ofString "state") = some (.ref c.so)
  mz : m (Str.ofString "zone") = some (.ref c.zx)
  mo : m (Str.ofString "old") = some (.ref c.po)
  icu : NeA c.cu [c.so, c.sd, c.fr, c.zx, c.zd, c.to, c.du, c.km, c.fl, (c.L + 1), (c.L + 2), (c.L + 3), (c.L + 4), (c.L + 5), (c.L + 6), p.c0, p.c1, p.c2, p.d0, p.d1, p.d2, c.q0, c.q1, c.q2, p.r0, p.r1, p.r2]
  idu : NeA c.du [c.so, c.sd, c.fr, c.zx, c.zd, c.cu, c.to, c.km, c.fl, (c.L + 1), (c.L + 2), (c.L + 3), (c.L + 4), (c.L + 5), (c.L + 6), p.c0, p.c1, p.c2, p.d0, p.d1, p.d2, c.q0, c.q1, c.q2, p.r0, p.r1, p.r2]
  imk : NeA c.km [c.so, c.sd, c.fr, c.zx, c.zd, c.cu, c.to, c.du, c.fl, (c.L + 1), (c.L + 2), (c.L + 3), (c.L + 4), (c.L + 5), (c.L + 6), p.c0, p.c1, p.c2, p.d0, p.d1, p.d2, c.q0, c.q1, c.q2, p.r0, p.r1, p.r2]
  i4 : NeA (c.L + 4) [c.so, c.sd, c.fr, c.zx, c.zd, c.cu, c.to, c.du, c.km, c.fl, (c.L + 1), (c.L + 2), (c.L + 3), (c.L + 5), (c.L + 6), p.c0, p.c1, p.c2, p.d0, p.d1, p.d2, c.q0, c.q1, c.q2, p.r0, p.r1, p.r2]
  i5 : NeA (c.L + 5) [c.so, c.sd, c.fr, c.zx, c.zd, c.cu, c.to, c.du, c.km, c.fl, (c.L + 1), (c.L + 2), (c.L + 3), (c.L + 4), (c.L + 6), p.c0, p.c1, p.c2, p.d0, p.d1, p.d2, c.q0, c.q1, c.q2, p.r0, p.r1, p.r2]
  i6 : NeA (c.L + 6) [c.so, c.sd, c.fr, c.zx, c.zd, c.cu, c.to, c.du, c.km, c.fl, (c.L + 1), (c.L + 2), (c.L + 3), (c.L + 4), (c.L + 5), p.c0, p.c1, p.c2, p.d0, p.d1, p.d2, c.q0, c.q1, c.q2, p.r0, p.r1, p.r2]
  iq0 : NeA c.q0 [c.so, c.sd, c.fr, c.zx, c.zd, c.cu, c.to, c.du, c.km, c.fl, (c.L + 1), (c.L + 2), (c.L + 3), (c.L + 4), (c.L + 5), (c.L + 6), p.c0, p.c1, p.c2, p.d0, p.d1, p.d2, c.q1, c.q2, p.r0, p.r1, p.r2]
  iq1 : NeA c.q1 [c.so, c.sd, c.fr, c.zx, c.zd, c.cu, c.to, c.du, c.km, c.fl, (c.L + 1), (c.L + 2), (c.L + 3), (c.L + 4), (c.L + 5), (c.L + 6), p.c0, p.c1, p.c2, p.d0, p.d1, p.d2, c.q0, c.q2, p.r0, p.r1, p.r2]
  iq2 : NeA c.q2 [c.so, c.sd, c.fr, c.zx, c.zd, c.cu, c.to, c.du, c.km, c.fl, (c.L + 1), (c.L + 2), (c.L + 3), (c.L + 4), (c.L + 5), (c.L + 6), p.c0, p.c1, p.c2, p.d0, p.d1, p.d2, c.q0, c.q1, p.r0, p.r1, p.r2]
  kcu : NeA c.cu (c.keep.map (·.1))
  kdu : NeA c.du (c.keep.map (·.1))
  kmk : NeA c.km (c.keep.map (·.1))
  k4 : NeA (c.L + 4) (c.keep.map (·.1))
  k5 : NeA (c.L + 5) (c.keep.map (·.1))
  k6 : NeA (c.L + 6) (c.keep.map (·.1))
  kq0 : NeA c.q0 (c.keep.map (·.1))
  kq1 : NeA c.q1 (c.keep.map (·.1))
  kq2 : NeA c.q2 (c.keep.map (·.1))
structure CfgOk (w : World) (c : Cfg) : Prop where
  f0 : c.f0 = decide (c.fx ≠ 0)
  f1 : c.f1 = decide (c.fy ≠ 0)
  hfr : getL (Str.ofString "freedom") c.es = some (some (.ref c.fr))
  h1 : c.o1.data = .cell (some (.ref c.du))
  h2 : c.o2.data = .cell (some (.ref c.km))
  h3 : c.o3.data = .cell (some (.ref c.fl))
  m3 : (c.og, l3 c.p0 c.p1 c.p2 c.e9) ∈ c.keep
  m6 : (c.en, listOf #[.int 2 c.t9] c.e10) ∈ c.keep
  m7 : (c.oc, listOf #[.bool true, .bool true, .bool true] c.e11) ∈ c.keep
  m8 : (c.po, l3 c.p0 c.p1 c.p2 c.e12) ∈ c.keep
  P0 : (c.p0, ip c.P0x c.P0y c.t6 c.u6) ∈ c.keep
  P1 : (c.p1, ip c.P1x c.P1y c.t7 c.u7) ∈ c.keep
  P2 : (c.p2, ip c.P2x c.P2y c.t8 c.u8) ∈ c.keep
theorem toAssign {α : Type} {da it zc0 zc1 zc2 zcu zd0 zd1 zd2 zdu zfl zfr zl1 zl2 zl3 zl4 zl5 zl6 zmk zq0 zq1 zq2 zr0 zr1 zr2 zsd zso zto zzd zzx : α} {k : List α} : ∀ p ∈ zl4 :: zl5 :: zl6 :: da :: it :: zso :: zsd :: zfr :: zzx :: zzd :: zcu :: zto :: zdu :: zmk :: zfl :: zl1 :: zl2 :: zl3 :: zc0 :: zc1 :: zc2 :: zd0 :: zd1 :: zd2 :: zq0 :: zq1 :: zq2 :: zr0 :: zr1 :: zr2 :: k, p ∈ da :: it :: zso :: zsd :: zfr :: zzx :: zzd :: zcu :: zto :: zdu :: zmk :: zfl :: zl1 :: zl2 :: zl3 :: zl4 :: zl5 :: zl6 :: zc0 :: zc1 :: zc2 :: zd0 :: zd1 :: zd2 :: zq0 :: zq1 :: zq2 :: zr0 :: zr1 :: zr2 :: k :=
  sub_at (mx 15 rfl) (sub_at (mx 16 rfl) (sub_at (mx 17 rfl) (sub_at (mx 0 rfl) (sub_at (mx 1 rfl) (sub_at (mx 2 rfl) (sub_at (mx 3 rfl) (sub_at (mx 4 rfl) (sub_at (mx 5 rfl) (sub_at (mx 6 rfl) (sub_at (mx 7 rfl) (sub_at (mx 8 rfl) (sub_at (mx 9 rfl) (sub_at (mx 10 rfl) (sub_at (mx 11 rfl) (sub_at (mx 12 rfl) (sub_at (mx 13 rfl) (sub_at (mx 14 rfl) (sub_at (mx 18 rfl) (sub_at (mx 19 rfl) (sub_at (mx 20 rfl) (sub_at (mx 21 rfl) (sub_at (mx 22 rfl) (sub_at (mx 23 rfl) (sub_at (mx 24 rfl) (sub_at (mx 25 rfl) (sub_at (mx 26 rfl) (sub_at (mx 27 rfl) (sub_at (mx 28 rfl) (sub_at (mx 29 rfl) (fun _ h => .tail _ (.tail _ (.tail _ (.tail _ (.tail _ (.tail _ (.tail _ (.tail _ (.tail _ (.tail _ (.tail _ (.tail _ (.tail _ (.tail _ (.tail _ (.tail _ (.tail _ (.tail _ (.tail _ (.tail _ (.tail _ (.tail _ (.tail _ (.tail _ (.tail _ (.tail _ (.tail _ (.tail _ (.tail _ (.tail _ (h))))))))))))))))))))))))))))))))))))))))))))))))))))))))))))
theorem fromAssign {α : Type} {da it zc0 zc1 zc2 zcu zd0 zd1 zd2 zdu zfl zfr zl1 zl2 zl3 zl4 zl5 zl6 zmk zq0 zq1 zq2 zr0 zr1 zr2 zsd zso zto zzd zzx : α} {k : List α} : ∀ p ∈ it :: zso :: zsd :: zfr :: zzx :: zzd :: zcu :: zto :: zdu :: zmk :: zfl :: zl1 :: zl2 :: zl3 :: zl4 :: zl5 :: zl6 :: zc0 :: zc1 :: zc2 :: zd0 :: zd1 :: zd2 :: zq0 :: zq1 :: zq2 :: zr0 :: zr1 :: zr2 :: k, p ∈ zl4 :: zl5 :: zl6 :: da :: it :: zso :: zsd :: zfr :: zzx :: zzd :: zcu :: zto :: zdu :: zmk :: zfl :: zl1 :: zl2 :: zl3 :: zc0 :: zc1 :: zc2 :: zd0 :: zd1 :: zd2 :: zq0 :: zq1 :: zq2 :: zr0 :: zr1 :: zr2 :: k :=
  sub_at (mx 4 rfl) (sub_at (mx 5 rfl) (sub_at (mx 6 rfl) (sub_at (mx 7 rfl) (sub_at (mx 8 rfl) (sub_at (mx 9 rfl) (sub_at (mx 10 rfl) (sub_at (mx 11 rfl) (sub_at (mx 12 rfl) (sub_at (mx 13 rfl) (sub_at (mx 14 rfl) (sub_at (mx 15 rfl) (sub_at (mx 16 rfl) (sub_at (mx 17 rfl) (sub_at (mx 0 rfl) (sub_at (mx 1 rfl) (sub_at (mx 2 rfl) (sub_at (mx 18 rfl) (sub_at (mx 19 rfl) (sub_at (mx 20 rfl) (sub_at (mx 21 rfl) (sub_at (mx 22 rfl) (sub_at (mx 23 rfl) (sub_at (mx 24 rfl) (sub_at (mx 25 rfl) (sub_at (mx 26 rfl) (sub_at (mx 27 rfl) (sub_at (mx 28 rfl) (sub_at (mx 29 rfl) (fun _ h => .tail _ (.tail _ (.tail _ (.tail _ (.tail _ (.tail _ (.tail _ (.tail _ (.tail _ (.tail _ (.tail _ (.tail _ (.tail _ (.tail _ (.tail _ (.tail _ (.tail _ (.tail _ (.tail _ (.tail _ (.tail _ (.tail _ (.tail _ (.tail _ (.tail _ (.tail _ (.tail _ (.tail _ (.tail _ (.tail _ (h)))))))))))))))))))))))))))))))))))))))))))))))))))))))))))
theorem toPoint0 {α : Type} {it sa zc0 zc1 zc2 zcu zd0 zd1 zd2 zdu zfl zfr zl1 zl2 zl3 zl4 zl5 zl6 zmk zq0 zq1 zq2 zr0 zr1 zr2 zsd zso zto zzd zzx : α} {k : List α} : ∀ p ∈ zso :: zsd :: zfr :: zzx :: zzd :: zcu :: zc0 :: zto :: zq0 :: sa :: zdu :: zd0 :: zmk :: zr0 :: zfl :: zl1 :: zl2 :: zl3 :: zl4 :: zl5 :: zl6 :: it :: zc1 :: zc2 :: zd1 :: zd2 :: zq1 :: zq2 :: zr1 :: zr2 :: k, p ∈ sa :: it :: zso :: zsd :: zfr :: zzx :: zzd :: zcu :: zto :: zdu :: zmk :: zfl :: zl1 :: zl2 :: zl3 :: zl4 :: zl5 :: zl6 :: zc0 :: zc1 :: zc2 :: zd0 :: zd1 :: zd2 :: zq0 :: zq1 :: zq2 :: zr0 :: zr1 :: zr2 :: k :=
  sub_at (mx 2 rfl) (sub_at (mx 3 rfl) (sub_at (mx 4 rfl) (sub_at (mx 5 rfl) (sub_at (mx 6 rfl) (sub_at (mx 7 rfl) (sub_at (mx 18 rfl) (sub_at (mx 8 rfl) (sub_at (mx 24 rfl) (sub_at (mx 0 rfl) (sub_at (mx 9 rfl) (sub_at (mx 21 rfl) (sub_at (mx 10 rfl) (sub_at (mx 27 rfl) (sub_at (mx 11 rfl) (sub_at (mx 12 rfl) (sub_at (mx 13 rfl) (sub_at (mx 14 rfl) (sub_at (mx 15 rfl) (sub_at (mx 16 rfl) (sub_at (mx 17 rfl) (sub_at (mx 1 rfl) (sub_at (mx 19 rfl) (sub_at (mx 20 rfl) (sub_at (mx 22 rfl) (sub_at (mx 23 rfl) (sub_at (mx 25 rfl) (sub_at (mx 26 rfl) (sub_at (mx 28 rfl) (sub_at (mx 29 rfl) (fun _ h => .tail _ (.tail _ (.tail _ (.tail _ (.tail _ (.tail _ (.tail _ (.tail _ (.tail _ (.tail _ (.tail _ (.tail _ (.tail _ (.tail _ (.tail _ (.tail _ (.tail _ (.tail _ (.tail _ (.tail _ (.tail _ (.tail _ (.tail _ (.tail _ (.tail _ (.tail _ (.tail _ (.tail _ (.tail _ (.tail _ (h))))))))))))))))))))))))))))))))))))))))))))))))))))))))))))
theorem fromPoint0 {α : Type} {it n n2 r sa zc0 zc1 zc2 zcu zd0 zd1 zd2 zdu zfl zfr zl1 zl2 zl3 zl4 zl5 zl6 zmk zq0 zq1 zq2 zr0 zr1 zr2 zsd zso zto zzd zzx : α} {k : List α} : ∀ p ∈ it :: zso :: zsd :: zfr :: zzx :: zzd :: zcu :: zto :: zdu :: zmk :: zfl :: zl1 :: zl2 :: zl3 :: zl4 :: zl5 :: zl6 :: n :: zc1 :: zc2 :: n2 :: zd1 :: zd2 :: zq0 :: zq1 :: zq2 :: r :: zr1 :: zr2 :: k, p ∈ n :: n2 :: r :: zso :: zsd :: zfr :: zzx :: zzd :: zcu :: zc0 :: zto :: zq0 :: sa :: zdu :: zd0 :: zmk :: zr0 :: zfl :: zl1 :: zl2 :: zl3 :: zl4 :: zl5 :: zl6 :: it :: zc1 :: zc2 :: zd1 :: zd2 :: zq1 :: zq2 :: zr1 :: zr2 :: k :=
  sub_at (mx 24 rfl) (sub_at (mx 3 rfl) (sub_at (mx 4 rfl) (sub_at (mx 5 rfl) (sub_at (mx 6 rfl) (sub_at (mx 7 rfl) (sub_at (mx 8 rfl) (sub_at (mx 10 rfl) (sub_at (mx 13 rfl) (sub_at (mx 15 rfl) (sub_at (mx 17 rfl) (sub_at (mx 18 rfl) (sub_at (mx 19 rfl) (sub_at (mx 20 rfl) (sub_at (mx 21 rfl) (sub_at (mx 22 rfl) (sub_at (mx 23 rfl) (sub_at (mx 0 rfl) (sub_at (mx 25 rfl) (sub_at (mx 26 rfl) (sub_at (mx 1 rfl) (sub_at (mx 27 rfl) (sub_at (mx 28 rfl) (sub_at (mx 11 rfl) (sub_at (mx 29 rfl) (sub_at (mx 30 rfl) (sub_at (mx 2 rfl) (sub_at (mx 31 rfl) (sub_at (mx 32 rfl) (fun _ h => .tail _ (.tail _ (.tail _ (.tail _ (.tail _ (.tail _ (.tail _ (.tail _ (.tail _ (.tail _ (.tail _ (.tail _ (.tail _ (.tail _ (.tail _ (.tail _ (.tail _ (.tail _ (.tail _ (.tail _ (.tail _ (.tail _ (.tail _ (.tail _ (.tail _ (.tail _ (.tail _ (.tail _ (.tail _ (.tail _ (.tail _ (.tail _ (.tail _ (h))))))))))))))))))))))))))))))))))))))))))))))))))))))))))))))
theorem toPoint1 {α : Type} {it sa zc0 zc1 zc2 zcu zd0 zd1 zd2 zdu zfl zfr zl1 zl2 zl3 zl4 zl5 zl6 zmk zq0 zq1 zq2 zr0 zr1 zr2 zsd zso zto zzd zzx : α} {k : List α} : ∀ p ∈ zso :: zsd :: zfr :: zzx :: zzd :: zcu :: zc1 :: zto :: zq1 :: sa :: zdu :: zd1 :: zmk :: zr1 :: zfl :: zl1 :: zl2 :: zl3 :: zl4 :: zl5 :: zl6 :: it :: zc0 :: zc2 :: zd0 :: zd2 :: zq0 :: zq2 :: zr0 :: zr2 :: k, p ∈ sa :: it :: zso :: zsd :: zfr :: zzx :: zzd :: zcu :: zto :: zdu :: zmk :: zfl :: zl1 :: zl2 :: zl3 :: zl4 :: zl5 :: zl6 :: zc0 :: zc1 :: zc2 :: zd0 :: zd1 :: zd2 :: zq0 :: zq1 :: zq2 :: zr0 :: zr1 :: zr2 :: k :=
  sub_at (mx 2 rfl) (sub_at (mx 3 rfl) (sub_at (mx 4 rfl) (sub_at (mx 5 rfl) (sub_at (mx 6 rfl) (sub_at (mx 7 rfl) (sub_at (mx 19 rfl) (sub_at (mx 8 rfl) (sub_at (mx 25 rfl) (sub_at (mx 0 rfl) (sub_at (mx 9 rfl) (sub_at (mx 22 rfl) (sub_at (mx 10 rfl) (sub_at (mx 28 rfl) (sub_at (mx 11 rfl) (sub_at (mx 12 rfl) (sub_at (mx 13 rfl) (sub_at (mx 14 rfl) (sub_at (mx 15 rfl) (sub_at (mx 16 rfl) (sub_at (mx 17 rfl) (sub_at (mx 1 rfl) (sub_at (mx 18 rfl) (sub_at (mx 20 rfl) (sub_at (mx 21 rfl) (sub_at (mx 23 rfl) (sub_at (mx 24 rfl) (sub_at (mx 26 rfl) (sub_at (mx 27 rfl) (sub_at (mx 29 rfl) (fun _ h => .tail _ (.tail _ (.tail _ (.tail _ (.tail _ (.tail _ (.tail _ (.tail _ (.tail _ (.tail _ (.tail _ (.tail _ (.tail _ (.tail _ (.tail _ (.tail _ (.tail _ (.tail _ (.tail _ (.tail _ (.tail _ (.tail _ (.tail _ (.tail _ (.tail _ (.tail _ (.tail _ (.tail _ (.tail _ (.tail _ (h))))))))))))))))))))))))))))))))))))))))))))))))))))))))))))
theorem fromPoint1 {α : Type} {it n n2 r sa zc0 zc1 zc2 zcu zd0 zd1 zd2 zdu zfl zfr zl1 zl2 zl3 zl4 zl5 zl6 zmk zq0 zq1 zq2 zr0 zr1 zr2 zsd zso zto zzd zzx : α} {k : List α} : ∀ p ∈ it :: zso :: zsd :: zfr :: zzx :: zzd :: zcu :: zto :: zdu :: zmk :: zfl :: zl1 :: zl2 :: zl3 :: zl4 :: zl5 :: zl6 :: zc0 :: n :: zc2 :: zd0 :: n2 :: zd2 :: zq0 :: zq1 :: zq2 :: zr0 :: r :: zr2 :: k, p ∈ n :: n2 :: r :: zso :: zsd :: zfr :: zzx :: zzd :: zcu :: zc1 :: zto :: zq1 :: sa :: zdu :: zd1 :: zmk :: zr1 :: zfl :: zl1 :: zl2 :: zl3 :: zl4 :: zl5 :: zl6 :: it :: zc0 :: zc2 :: zd0 :: zd2 :: zq0 :: zq2 :: zr0 :: zr2 :: k :=
  sub_at (mx 24 rfl) (sub_at (mx 3 rfl) (sub_at (mx 4 rfl) (sub_at (mx 5 rfl) (sub_at (mx 6 rfl) (sub_at (mx 7 rfl) (sub_at (mx 8 rfl) (sub_at (mx 10 rfl) (sub_at (mx 13 rfl) (sub_at (mx 15 rfl) (sub_at (mx 17 rfl) (sub_at (mx 18 rfl) (sub_at (mx 19 rfl) (sub_at (mx 20 rfl) (sub_at (mx 21 rfl) (sub_at (mx 22 rfl) (sub_at (mx 23 rfl) (sub_at (mx 25 rfl) (sub_at (mx 0 rfl) (sub_at (mx 26 rfl) (sub_at (mx 27 rfl) (sub_at (mx 1 rfl) (sub_at (mx 28 rfl) (sub_at (mx 29 rfl) (sub_at (mx 11 rfl) (sub_at (mx 30 rfl) (sub_at (mx 31 rfl) (sub_at (mx 2 rfl) (sub_at (mx 32 rfl) (fun _ h => .tail _ (.tail _ (.tail _ (.tail _ (.tail _ (.tail _ (.tail _ (.tail _ (.tail _ (.tail _ (.tail _ (.tail _ (.tail _ (.tail _ (.tail _ (.tail _ (.tail _ (.tail _ (.tail _ (.tail _ (.tail _ (.tail _ (.tail _ (.tail _ (.tail _ (.tail _ (.tail _ (.tail _ (.tail _ (.tail _ (.tail _ (.tail _ (.tail _ (h))))))))))))))))))))))))))))))))))))))))))))))))))))))))))))))
theorem toPoint2 {α : Type} {it sa zc0 zc1 zc2 zcu zd0 zd1 zd2 zdu zfl zfr zl1 zl2 zl3 zl4 zl5 zl6 zmk zq0 zq1 zq2 zr0 zr1 zr2 zsd zso zto zzd zzx : α} {k : List α} : ∀ p ∈ zso :: zsd :: zfr :: zzx :: zzd :: zcu :: zc2 :: zto :: zq2 :: sa :: zdu :: zd2 :: zmk :: zr2 :: zfl :: zl1 :: zl2 :: zl3 :: zl4 :: zl5 :: zl6 :: it :: zc0 :: zc1 :: zd0 :: zd1 :: zq0 :: zq1 :: zr0 :: zr1 :: k, p ∈ sa :: it :: zso :: zsd :: zfr :: zzx :: zzd :: zcu :: zto :: zdu :: zmk :: zfl :: zl1 :: zl2 :: zl3 :: zl4 :: zl5 :: zl6 :: zc0 :: zc1 :: zc2 :: zd0 :: zd1 :: zd2 :: zq0 :: zq1 :: zq2 :: zr0 :: zr1 :: zr2 :: k :=
  sub_at (mx 2 rfl) (sub_at (mx 3 rfl) (sub_at (mx 4 rfl) (sub_at (mx 5 rfl) (sub_at (mx 6 rfl) (sub_at (mx 7 rfl) (sub_at (mx 20 rfl) (sub_at (mx 8 rfl) (sub_at (mx 26 rfl) (sub_at (mx 0 rfl) (sub_at (mx 9 rfl) (sub_at (mx 23 rfl) (sub_at (mx 10 rfl) (sub_at (mx 29 rfl) (sub_at (mx 11 rfl) (sub_at (mx 12 rfl) (sub_at (mx 13 rfl) (sub_at (mx 14 rfl) (sub_at (mx 15 rfl) (sub_at (mx 16 rfl) (sub_at (mx 17 rfl) (sub_at (mx 1 rfl) (sub_at (mx 18 rfl) (sub_at (mx 19 rfl) (sub_at (mx 21 rfl) (sub_at (mx 22 rfl) (sub_at (mx 24 rfl) (sub_at (mx 25 rfl) (sub_at (mx 27 rfl) (sub_at (mx 28 rfl) (fun _ h => .tail _ (.tail _ (.tail _ (.tail _ (.tail _ (.tail _ (.tail _ (.tail _ (.tail _ (.tail _ (.tail _ (.tail _ (.tail _ (.tail _ (.tail _ (.tail _ (.tail _ (.tail _ (.tail _ (.tail _ (.tail _ (.tail _ (.tail _ (.tail _ (.tail _ (.tail _ (.tail _ (.tail _ (.tail _ (.tail _ (h))))))))))))))))))))))))))))))))))))))))))))))))))))))))))))
theorem fromPoint2 {α : Type} {it n n2 r sa zc0 zc1 zc2 zcu zd0 zd1 zd2 zdu zfl zfr zl1 zl2 zl3 zl4 zl5 zl6 zmk zq0 zq1 zq2 zr0 zr1 zr2 zsd zso zto zzd zzx : α} {k : List α} : ∀ p ∈ it :: zso :: zsd :: zfr :: zzx :: zzd :: zcu :: zto :: zdu :: zmk :: zfl :: zl1 :: zl2 :: zl3 :: zl4 :: zl5 :: zl6 :: zc0 :: zc1 :: n :: zd0 :: zd1 :: n2 :: zq0 :: zq1 :: zq2 :: zr0 :: zr1 :: r :: k, p ∈ n :: n2 :: r :: zso :: zsd :: zfr :: zzx :: zzd :: zcu :: zc2 :: zto :: zq2 :: sa :: zdu :: zd2 :: zmk :: zr2 :: zfl :: zl1 :: zl2 :: zl3 :: zl4 :: zl5 :: zl6 :: it :: zc0 :: zc1 :: zd0 :: zd1 :: zq0 :: zq1 :: zr0 :: zr1 :: k :=
  sub_at (mx 24 rfl) (sub_at (mx 3 rfl) (sub_at (mx 4 rfl) (sub_at (mx 5 rfl) (sub_at (mx 6 rfl) (sub_at (mx 7 rfl) (sub_at (mx 8 rfl) (sub_at (mx 10 rfl) (sub_at (mx 13 rfl) (sub_at (mx 15 rfl) (sub_at (mx 17 rfl) (sub_at (mx 18 rfl) (sub_at (mx 19 rfl) (sub_at (mx 20 rfl) (sub_at (mx 21 rfl) (sub_at (mx 22 rfl) (sub_at (mx 23 rfl) (sub_at (mx 25 rfl) (sub_at (mx 26 rfl) (sub_at (mx 0 rfl) (sub_at (mx 27 rfl) (sub_at (mx 28 rfl) (sub_at (mx 1 rfl) (sub_at (mx 29 rfl) (sub_at (mx 30 rfl) (sub_at (mx 11 rfl) (sub_at (mx 31 rfl) (sub_at (mx 32 rfl) (sub_at (mx 2 rfl) (fun _ h => .tail _ (.tail _ (.tail _ (.tail _ (.tail _ (.tail _ (.tail _ (.tail _ (.tail _ (.tail _ (.tail _ (.tail _ (.tail _ (.tail _ (.tail _ (.tail _ (.tail _ (.tail _ (.tail _ (.tail _ (.tail _ (.tail _ (.tail _ (.tail _ (.tail _ (.tail _ (.tail _ (.tail _ (.tail _ (.tail _ (.tail _ (.tail _ (.tail _ (h))))))))))))))))))))))))))))))))))))))))))))))))))))))))))))))
theorem toOut {α : Type} {it sa zc0 zc1 zc2 zcu zd0 zd1 zd2 zdu zfl zfr zl1 zl2 zl3 zl4 zl5 zl6 zmk zq0 zq1 zq2 zr0 zr1 zr2 zsd zso zto zzd zzx : α} {k : List α} : ∀ p ∈ zzx :: zzd :: zcu :: zto :: sa :: zdu :: zmk :: zl1 :: zl2 :: zl3 :: zl4 :: zl5 :: zl6 :: it :: zso :: zsd :: zfr :: zfl :: zc0 :: zc1 :: zc2 :: zd0 :: zd1 :: zd2 :: zq0 :: zq1 :: zq2 :: zr0 :: zr1 :: zr2 :: k, p ∈ sa :: it :: zso :: zsd :: zfr :: zzx :: zzd :: zcu :: zto :: zdu :: zmk :: zfl :: zl1 :: zl2 :: zl3 :: zl4 :: zl5 :: zl6 :: zc0 :: zc1 :: zc2 :: zd0 :: zd1 :: zd2 :: zq0 :: zq1 :: zq2 :: zr0 :: zr1 :: zr2 :: k :=
  sub_at (mx 5 rfl) (sub_at (mx 6 rfl) (sub_at (mx 7 rfl) (sub_at (mx 8 rfl) (sub_at (mx 0 rfl) (sub_at (mx 9 rfl) (sub_at (mx 10 rfl) (sub_at (mx 12 rfl) (sub_at (mx 13 rfl) (sub_at (mx 14 rfl) (sub_at (mx 15 rfl) (sub_at (mx 16 rfl) (sub_at (mx 17 rfl) (sub_at (mx 1 rfl) (sub_at (mx 2 rfl) (sub_at (mx 3 rfl) (sub_at (mx 4 rfl) (sub_at (mx 11 rfl) (sub_at (mx 18 rfl) (sub_at (mx 19 rfl) (sub_at (mx 20 rfl) (sub_at (mx 21 rfl) (sub_at (mx 22 rfl) (sub_at (mx 23 rfl) (sub_at (mx 24 rfl) (sub_at (mx 25 rfl) (sub_at (mx 26 rfl) (sub_at (mx 27 rfl) (sub_at (mx 28 rfl) (sub_at (mx 29 rfl) (fun _ h => .tail _ (.tail _ (.tail _ (.tail _ (.tail _ (.tail _ (.tail _ (.tail _ (.tail _ (.tail _ (.tail _ (.tail _ (.tail _ (.tail _ (.tail _ (.tail _ (.tail _ (.tail _ (.tail _ (.tail _ (.tail _ (.tail _ (.tail _ (.tail _ (.tail _ (.tail _ (.tail _ (.tail _ (.tail _ (.tail _ (h))))))))))))))))))))))))))))))))))))))))))))))))))))))))))))
theorem fromOut {α : Type} {it sa zc0 zc1 zc2 zcu zd0 zd1 zd2 zdu zfl zfr zl1 zl2 zl3 zl4 zl5 zl6 zmk zq0 zq1 zq2 zr0 zr1 zr2 zsd zso zto zzd zzx : α} {k : List α} : ∀ p ∈ it :: zso :: zsd :: zfr :: zzx :: zzd :: zcu :: zto :: zdu :: zmk :: zfl :: zl1 :: zl2 :: zl3 :: zl4 :: zl5 :: zl6 :: zc0 :: zc1 :: zc2 :: zd0 :: zd1 :: zd2 :: zq0 :: zq1 :: zq2 :: zr0 :: zr1 :: zr2 :: k, p ∈ zzx :: zzd :: zcu :: zto :: sa :: zdu :: zmk :: zl1 :: zl2 :: zl3 :: zl4 :: zl5 :: zl6 :: it :: zso :: zsd :: zfr :: zfl :: zc0 :: zc1 :: zc2 :: zd0 :: zd1 :: zd2 :: zq0 :: zq1 :: zq2 :: zr0 :: zr1 :: zr2 :: k :=
  sub_at (mx 13 rfl) (sub_at (mx 14 rfl) (sub_at (mx 15 rfl) (sub_at (mx 16 rfl) (sub_at (mx 0 rfl) (sub_at (mx 1 rfl) (sub_at (mx 2 rfl) (sub_at (mx 3 rfl) (sub_at (mx 5 rfl) (sub_at (mx 6 rfl) (sub_at (mx 17 rfl) (sub_at (mx 7 rfl) (sub_at (mx 8 rfl) (sub_at (mx 9 rfl) (sub_at (mx 10 rfl) (sub_at (mx 11 rfl) (sub_at (mx 12 rfl) (sub_at (mx 18 rfl) (sub_at (mx 19 rfl) (sub_at (mx 20 rfl) (sub_at (mx 21 rfl) (sub_at (mx 22 rfl) (sub_at (mx 23 rfl) (sub_at (mx 24 rfl) (sub_at (mx 25 rfl) (sub_at (mx 26 rfl) (sub_at (mx 27 rfl) (sub_at (mx 28 rfl) (sub_at (mx 29 rfl) (fun _ h => .tail _ (.tail _ (.tail _ (.tail _ (.tail _ (.tail _ (.tail _ (.tail _ (.tail _ (.tail _ (.tail _ (.tail _ (.tail _ (.tail _ (.tail _ (.tail _ (.tail _ (.tail _ (.tail _ (.tail _ (.tail _ (.tail _ (.tail _ (.tail _ (.tail _ (.tail _ (.tail _ (.tail _ (.tail _ (.tail _ (h)))))))))))))))))))))))))))))))))))))))))))))))))))))))))))
section
variable {w : World} {mean : ExcName → Option Value} {mg mb : Str → Option Value} {dp un : Nat} {gd : Option (List Code)} {cn : Str} {cs : Scope} {a : Addr} {ccd : Value} {cl : List (Str × Addr)} {base g h₀ : Heap} {L L₁ : Addr} {m : Str → Option Value} {fd : FuncData} {rest : List (Addr × Obj)} {o4 o5 o6 : Obj} {v4 v5 v6 : Option Value} {it : Addr × Obj}
local macro_rules | `(tactic| k_room) => `(tactic| ktr_room)
theorem assign_c {Q : Unit → Shared → Prop} {E : Value → Shared → Prop} {da sa : Addr} {i : Int} {ti : Tok} {b : Bool} (hfd : fdAt w 417 = some fd) {target : PySem.Expr} (ht : loopTarget fd = some target) (B : Below (ktrTop dp un gd cn cs L₁ a ccd cl []) base [envX cn cs L₁ a ccd cl] h₀) (F : Fr h₀ L s.heap m) (X : (KF w.params).In h₀) (T : Top qv LS mean mg mb h₀)
  (N : News h₀ L s.heap ((L + 4, o4) :: (L + 5, o5) :: (L + 6, o6) :: (da, tup [.int i ti, .ref sa, .bool b]) :: rest))
  (h4 : o4.data = .cell v4) (h5 : o5.data = .cell v5) (h6 : o6.data = .cell v6) (n4 : NeA (L + 4) (da :: rest.map (·.1))) (n5 : NeA (L + 5) (da :: rest.map (·.1))) (n6 : NeA (L + 6) (da :: rest.map (·.1)))
  (ret : ∀ (o4' o5' o6' : Obj) (h' : Heap) (tk' : Nat), Fr h₀ L h' m → News h₀ L h' ((L + 4, o4') :: (L + 5, o5') :: (L + 6, o6') :: (da, tup [.int i ti, .ref sa, .bool b]) :: rest) → o4'.data = .cell (some (.int i ti)) → o5'.data = .cell (some (.ref sa)) → o6'.data = .cell (some (.bool b)) → Q () { s with heap := h', toks := tk' }) :
  wpAny (model PG w) ((ktrTop dp un gd cn cs L₁ a ccd cl []).deeper (envOfC fd.qualname fd.scope L 417 fd.code)) (assign target (envOfC fd.qualname fd.scope L 417 fd.code) (.ref da)) Q E s := by
  have n45 : L + 4 ≠ L + 5 := fun h => absurd (Nat.add_left_cancel (n := L) h) (by decide)
  have n46 : L + 4 ≠ L + 6 := fun h => absurd (Nat.add_left_cancel (n := L) h) (by decide)
  have n56 : L + 5 ≠ L + 6 := fun h => absurd (Nat.add_left_cancel (n := L) h) (by decide)
  refine' withFn (K := KF w.params) (f := 417) ?ho ?h
  case ho => k_is
  intro e
  have e' := fdAt_of e
  rw [hfd] at e'
  obtain rfl := Option.some.inj e'
  clear e e' hfd
  dsimp only [loopTarget, List.findSome?] at ht
  obtain rfl := Option.some.inj ht
  clear ht
  k_steps
  refine ret _ _ _ _ _ (by assumption) (by assumption) ?_ ?_ ?_
  all_goals assumption

end
-- 20b_body
theorem inLed {α : Type} {it zso zsd zfr zzx zzd zcu zto zdu zmk zfl zl1 zl2 zl3 zl4 zl5 zl6 zc0 zc1 zc2 zd0 zd1 zd2 zq0 zq1 zq2 zr0 zr1 zr2 : α} {k : List α} : ∀ p ∈ k, p ∈ it :: zso :: zsd :: zfr :: zzx :: zzd :: zcu :: zto :: zdu :: zmk :: zfl :: zl1 :: zl2 :: zl3 :: zl4 :: zl5 :: zl6 :: zc0 :: zc1 :: zc2 :: zd0 :: zd1 :: zd2 :: zq0 :: zq1 :: zq2 :: zr0 :: zr1 :: zr2 :: k := fun _ h => .tail _ (.tail _ (.tail _ (.tail _ (.tail _ (.tail _ (.tail _ (.tail _ (.tail _ (.tail _ (.tail _ (.tail _ (.tail _ (.tail _ (.tail _ (.tail _ (.tail _ (.tail _ (.tail _ (.tail _ (.tail _ (.tail _ (.tail _ (.tail _ (.tail _ (.tail _ (.tail _ (.tail _ (.tail _ (h)))))))))))))))))))))))))))))
theorem inPoint0 {α : Type} {it zc1 zc2 zd1 zd2 zq1 zq2 zr1 zr2 : α} {k : List α} : ∀ p ∈ k, p ∈ it :: zc1 :: zc2 :: zd1 :: zd2 :: zq1 :: zq2 :: zr1 :: zr2 :: k := fun _ h => .tail _ (.tail _ (.tail _ (.tail _ (.tail _ (.tail _ (.tail _ (.tail _ (.tail _ (h)))))))))
theorem inPoint1 {α : Type} {it zc0 zc2 zd0 zd2 zq0 zq2 zr0 zr2 : α} {k : List α} : ∀ p ∈ k, p ∈ it :: zc0 :: zc2 :: zd0 :: zd2 :: zq0 :: zq2 :: zr0 :: zr2 :: k := fun _ h => .tail _ (.tail _ (.tail _ (.tail _ (.tail _ (.tail _ (.tail _ (.tail _ (.tail _ (h)))))))))
theorem inPoint2 {α : Type} {it zc0 zc1 zd0 zd1 zq0 zq1 zr0 zr1 : α} {k : List α} : ∀ p ∈ k, p ∈ it :: zc0 :: zc1 :: zd0 :: zd1 :: zq0 :: zq1 :: zr0 :: zr1 :: k := fun _ h => .tail _ (.tail _ (.tail _ (.tail _ (.tail _ (.tail _ (.tail _ (.tail _ (.tail _ (h)))))))))
theorem inOut {α : Type} {it zso zsd zfr zfl zc0 zc1 zc2 zd0 zd1 zd2 zq0 zq1 zq2 zr0 zr1 zr2 : α} {k : List α} : ∀ p ∈ k, p ∈ it :: zso :: zsd :: zfr :: zfl :: zc0 :: zc1 :: zc2 :: zd0 :: zd1 :: zd2 :: zq0 :: zq1 :: zq2 :: zr0 :: zr1 :: zr2 :: k := fun _ h => .tail _ (.tail _ (.tail _ (.tail _ (.tail _ (.tail _ (.tail _ (.tail _ (.tail _ (.tail _ (.tail _ (.tail _ (.tail _ (.tail _ (.tail _ (.tail _ (.tail _ (h)))))))))))))))))
section
variable {w : World} {mean : ExcName → Option Value} {mg mb : Str → Option Value} {dp un : Nat} {gd : Option (List Code)} {cn : Str} {cs : Scope} {a : Addr} {ccd : Value} {cl : List (Str × Addr)} {base g h₀ : Heap} {L L₁ : Addr} {m : Str → Option Value} {fd : FuncData} {rest : List (Addr × Obj)} {o4 o5 o6 : Obj} {v4 v5 v6 : Option Value} {it : Addr × Obj}
variable {c : Cfg} {p : Pts} {sa : Addr} {sx sy i : Int} {ti tsx tsy : Tok} {bt : Bool} {Q : Flow → Shared → Prop}
theorem body_0 (hfd : fdAt w 417 = some fd) (Tn : Turned w (ktrTop dp un gd cn cs L₁ a ccd cl []) base [envX cn cs L₁ a ccd cl] mean mg mb g c.L h₀ s.heap m (it :: c.led w p o4 o5 o6)) (XB : (KF w.params).In base) (TB : Top qv LS mean mg mb base)
  (hk : cs.kind = .function) (hdp : dp + 9 < recursionLimit) (hu : un + 200 < cLine) (C : CfgOk w c) (S : St c p m) (jt : NeA it.1 (c.adr p))
  (h4 : o4.data = .cell (some (.int i ti))) (h5 : o5.data = .cell (some (.ref sa))) (h6 : o6.data = .cell (some (.bool bt))) (hsa : (sa, ip sx sy tsx tsy) ∈ c.keep) (hi : i = 0)
  (ret : ∀ (g' : Heap) (p' : Pts) (m' : Str → Option Value) (h' : Heap) (tk' : Nat), Turned w (ktrTop dp un gd cn cs L₁ a ccd cl []) base [envX cn cs L₁ a ccd cl] mean mg mb g c.L g' h' m' (it :: c.led w p' o4 o5 o6) → St c p' m' → NeA it.1 (c.adr p') → Q .next { s with heap := h', toks := tk' }) :
  wpAny (model PG w) ((ktrTop dp un gd cn cs L₁ a ccd cl []).deeper (envOfC fd.qualname fd.scope c.L 417 fd.code)) (execs (loopBody fd) (envOfC fd.qualname fd.scope c.L 417 fd.code)) Q (fun _ _ => False) s := by
  subst hi
  obtain ⟨L, so, sd, fr, zx, zd, og, cu, to, en, oc, du, mk, fl, po, p0, p1, p2, q0, q1, q2, fx, fy, P0x, P0y, P1x, P1y, P2x, P2y, tfx, tfy, k1, k2, k3, k4, k5, t6, t7, t8, t9, u6, u7, u8, es, ne, e2, e3, e5, e6, e8, e9, e10, e11, e12, eq0, eq1, eq2, f0, f1, o1, o2, o3, keep⟩ := c
  obtain ⟨c0, c1, c2, d0, d1, d2, r0, r1, r2, x0, y0, x1, y1, x2, y2, tx0, ty0, tx1, ty1, tx2, ty2, ux0, uy0, ux1, uy1, ux2, uy2, a0, b0, a1, b1, a2, b2, er0, er1, er2⟩ := p
  obtain ⟨mst, mz, mo, icu, idu, imk, i4, i5, i6, iq0, iq1, iq2, kcu, kdu, kmk, k4, k5, k6, kq0, kq1, kq2⟩ := S
  obtain ⟨cf0, cf1, hfr, h1, h2, h3, m3, m6, m7, m8, P0, P1, P2⟩ := C
  obtain ⟨Tt, F, N, B, X, T, D⟩ := Tn
  dsimp only [Cfg.led, Cfg.adr] at *
  have hsa1 : sa ∈ keep.map (·.1) := List.mem_map.mpr ⟨_, hsa, rfl⟩
  have N1 := news_add N (inLed _ hsa)
  have N2 := cb_drop N1 toPoint0
  refine point_c (cvs := [.ref c0, .ref c1, .ref c2]) (dvs := [.ref d0, .ref d1, .ref d2]) (tvs := [.ref q0, .ref q1, .ref q2]) (mvs := [.ref r0, .ref r1, .ref r2]) (e4 := eq0) (e7 := er0) hfd B F X N2 T hk hdp hu h1 h2 h3 h4 h5 h6 ?W ?V (inPoint0 _ m3) (inPoint0 _ m6) (inPoint0 _ m7) (inPoint0 _ m8) (inPoint0 _ P0) (inPoint0 _ P1) (inPoint0 _ P2) mst mz mo rfl hfr cf0 cf1 (by decide) (by decide) rfl rfl rfl rfl rfl rfl rfl rfl ?n1 ?n2 ?n3 ?n4 ?ret
  case W =>
    intro j hj hne
    have hj3 : j = 0 ∨ j = 1 ∨ j = 2 := by omega
    rcases hj3 with rfl | rfl | rfl
    · exact absurd rfl hne
    · exact ⟨c1, d1, x1, y1, tx1, ty1, ux1, uy1, rfl, rfl, mx 1 rfl, mx 3 rfl⟩
    · exact ⟨c2, d2, x2, y2, tx2, ty2, ux2, uy2, rfl, rfl, mx 2 rfl, mx 4 rfl⟩
  case V =>
    intro j hj hne
    have hj3 : j = 0 ∨ j = 1 ∨ j = 2 := by omega
    rcases hj3 with rfl | rfl | rfl
    · exact absurd rfl hne
    · exact ⟨q1, r1, a1, b1, eq1, er1, rfl, rfl, mx 5 rfl, mx 7 rfl⟩
    · exact ⟨q2, r2, a2, b2, eq2, er2, rfl, rfl, mx 6 rfl, mx 8 rfl⟩
  case n1 => exact nea_cons (icu _ (mx 0 rfl)) (nea_cons (icu _ (mx 1 rfl)) (nea_cons (icu _ (mx 2 rfl)) (nea_cons (icu _ (mx 3 rfl)) (nea_cons (icu _ (mx 4 rfl)) (nea_cons (icu _ (mx 15 rfl)) (nea_cons (icu _ (mx 5 rfl)) (nea_cons (icu _ (mx 21 rfl)) (nea_cons (kcu _ hsa1) (nea_cons (icu _ (mx 6 rfl)) (nea_cons (icu _ (mx 18 rfl)) (nea_cons (icu _ (mx 7 rfl)) (nea_cons (icu _ (mx 24 rfl)) (nea_cons (icu _ (mx 8 rfl)) (nea_cons (icu _ (mx 9 rfl)) (nea_cons (icu _ (mx 10 rfl)) (nea_cons (icu _ (mx 11 rfl)) (nea_cons (icu _ (mx 12 rfl)) (nea_cons (icu _ (mx 13 rfl)) (nea_cons (icu _ (mx 14 rfl)) (nea_cons (Ne.symm (jt _ (mx 5 rfl))) (nea_cons (icu _ (mx 16 rfl)) (nea_cons (icu _ (mx 17 rfl)) (nea_cons (icu _ (mx 19 rfl)) (nea_cons (icu _ (mx 20 rfl)) (nea_cons (icu _ (mx 22 rfl)) (nea_cons (icu _ (mx 23 rfl)) (nea_cons (icu _ (mx 25 rfl)) (nea_cons (icu _ (mx 26 rfl)) (kcu)))))))))))))))))))))))))))))
  case n2 => exact nea_cons (iq0 _ (mx 0 rfl)) (nea_cons (iq0 _ (mx 1 rfl)) (nea_cons (iq0 _ (mx 2 rfl)) (nea_cons (iq0 _ (mx 3 rfl)) (nea_cons (iq0 _ (mx 4 rfl)) (nea_cons (iq0 _ (mx 5 rfl)) (nea_cons (iq0 _ (mx 16 rfl)) (nea_cons (iq0 _ (mx 6 rfl)) (nea_cons (kq0 _ hsa1) (nea_cons (iq0 _ (mx 7 rfl)) (nea_cons (iq0 _ (mx 19 rfl)) (nea_cons (iq0 _ (mx 8 rfl)) (nea_cons (iq0 _ (mx 24 rfl)) (nea_cons (iq0 _ (mx 9 rfl)) (nea_cons (iq0 _ (mx 10 rfl)) (nea_cons (iq0 _ (mx 11 rfl)) (nea_cons (iq0 _ (mx 12 rfl)) (nea_cons (iq0 _ (mx 13 rfl)) (nea_cons (iq0 _ (mx 14 rfl)) (nea_cons (iq0 _ (mx 15 rfl)) (nea_cons (Ne.symm (jt _ (mx 22 rfl))) (nea_cons (iq0 _ (mx 17 rfl)) (nea_cons (iq0 _ (mx 18 rfl)) (nea_cons (iq0 _ (mx 20 rfl)) (nea_cons (iq0 _ (mx 21 rfl)) (nea_cons (iq0 _ (mx 22 rfl)) (nea_cons (iq0 _ (mx 23 rfl)) (nea_cons (iq0 _ (mx 25 rfl)) (nea_cons (iq0 _ (mx 26 rfl)) (kq0)))))))))))))))))))))))))))))
  case n3 => exact nea_cons (idu _ (mx 0 rfl)) (nea_cons (idu _ (mx 1 rfl)) (nea_cons (idu _ (mx 2 rfl)) (nea_cons (idu _ (mx 3 rfl)) (nea_cons (idu _ (mx 4 rfl)) (nea_cons (idu _ (mx 5 rfl)) (nea_cons (idu _ (mx 15 rfl)) (nea_cons (idu _ (mx 6 rfl)) (nea_cons (idu _ (mx 21 rfl)) (nea_cons (kdu _ hsa1) (nea_cons (idu _ (mx 18 rfl)) (nea_cons (idu _ (mx 7 rfl)) (nea_cons (idu _ (mx 24 rfl)) (nea_cons (idu _ (mx 8 rfl)) (nea_cons (idu _ (mx 9 rfl)) (nea_cons (idu _ (mx 10 rfl)) (nea_cons (idu _ (mx 11 rfl)) (nea_cons (idu _ (mx 12 rfl)) (nea_cons (idu _ (mx 13 rfl)) (nea_cons (idu _ (mx 14 rfl)) (nea_cons (Ne.symm (jt _ (mx 7 rfl))) (nea_cons (idu _ (mx 16 rfl)) (nea_cons (idu _ (mx 17 rfl)) (nea_cons (idu _ (mx 19 rfl)) (nea_cons (idu _ (mx 20 rfl)) (nea_cons (idu _ (mx 22 rfl)) (nea_cons (idu _ (mx 23 rfl)) (nea_cons (idu _ (mx 25 rfl)) (nea_cons (idu _ (mx 26 rfl)) (kdu)))))))))))))))))))))))))))))
  case n4 => exact nea_cons (imk _ (mx 0 rfl)) (nea_cons (imk _ (mx 1 rfl)) (nea_cons (imk _ (mx 2 rfl)) (nea_cons (imk _ (mx 3 rfl)) (nea_cons (imk _ (mx 4 rfl)) (nea_cons (imk _ (mx 5 rfl)) (nea_cons (imk _ (mx 15 rfl)) (nea_cons (imk _ (mx 6 rfl)) (nea_cons (imk _ (mx 21 rfl)) (nea_cons (kmk _ hsa1) (nea_cons (imk _ (mx 7 rfl)) (nea_cons (imk _ (mx 18 rfl)) (nea_cons (imk _ (mx 24 rfl)) (nea_cons (imk _ (mx 8 rfl)) (nea_cons (imk _ (mx 9 rfl)) (nea_cons (imk _ (mx 10 rfl)) (nea_cons (imk _ (mx 11 rfl)) (nea_cons (imk _ (mx 12 rfl)) (nea_cons (imk _ (mx 13 rfl)) (nea_cons (imk _ (mx 14 rfl)) (nea_cons (Ne.symm (jt _ (mx 8 rfl))) (nea_cons (imk _ (mx 16 rfl)) (nea_cons (imk _ (mx 17 rfl)) (nea_cons (imk _ (mx 19 rfl)) (nea_cons (imk _ (mx 20 rfl)) (nea_cons (imk _ (mx 22 rfl)) (nea_cons (imk _ (mx 23 rfl)) (nea_cons (imk _ (mx 25 rfl)) (nea_cons (imk _ (mx 26 rfl)) (kmk)))))))))))))))))))))))))))))
  case ret =>
    intro n n2 r v1 v2 v3 v4 e' m' h' tk' F' hs' hz' ho' N' hn hn2 hr
    rw [mv_is cf0, mv_is cf1, tch_is cf0, tch_is cf1] at N'
    have N3 := cb_drop N' fromPoint0
    exact ret h₀ ⟨n, c1, c2, n2, d1, d2, r, r1, r2, w32 (x0 + if f0 = true then sx else 0), w32 (y0 + if f1 = true then sy else 0), x1, y1, x2, y2, v1, v2, tx1, ty1, tx2, ty2, v3, v4, ux1, uy1, ux2, uy2, (a0 || (bt && f0)), (b0 || (bt && f1)), a1, b1, a2, b2, e', er1, er2⟩ m' h' tk' ⟨Tt, F', N3, B, X, T, D⟩ ⟨hs', hz', ho',
      nea_cons (icu _ (mx 0 rfl)) (nea_cons (icu _ (mx 1 rfl)) (nea_cons (icu _ (mx 2 rfl)) (nea_cons (icu _ (mx 3 rfl)) (nea_cons (icu _ (mx 4 rfl)) (nea_cons (icu _ (mx 5 rfl)) (nea_cons (icu _ (mx 6 rfl)) (nea_cons (icu _ (mx 7 rfl)) (nea_cons (icu _ (mx 8 rfl)) (nea_cons (icu _ (mx 9 rfl)) (nea_cons (icu _ (mx 10 rfl)) (nea_cons (icu _ (mx 11 rfl)) (nea_cons (icu _ (mx 12 rfl)) (nea_cons (icu _ (mx 13 rfl)) (nea_cons (icu _ (mx 14 rfl)) (nea_cons (Ne.symm (hn _ (mx 5 rfl))) (nea_cons (icu _ (mx 16 rfl)) (nea_cons (icu _ (mx 17 rfl)) (nea_cons (Ne.symm (hn2 _ (mx 5 rfl))) (nea_cons (icu _ (mx 19 rfl)) (nea_cons (icu _ (mx 20 rfl)) (nea_cons (icu _ (mx 21 rfl)) (nea_cons (icu _ (mx 22 rfl)) (nea_cons (icu _ (mx 23 rfl)) (nea_cons (Ne.symm (hr _ (mx 5 rfl))) (nea_cons (icu _ (mx 25 rfl)) (nea_cons (icu _ (mx 26 rfl)) (nea_nil))))))))))))))))))))))))))),
      nea_cons (idu _ (mx 0 rfl)) (nea_cons (idu _ (mx 1 rfl)) (nea_cons (idu _ (mx 2 rfl)) (nea_cons (idu _ (mx 3 rfl)) (nea_cons (idu _ (mx 4 rfl)) (nea_cons (idu _ (mx 5 rfl)) (nea_cons (idu _ (mx 6 rfl)) (nea_cons (idu _ (mx 7 rfl)) (nea_cons (idu _ (mx 8 rfl)) (nea_cons (idu _ (mx 9 rfl)) (nea_cons (idu _ (mx 10 rfl)) (nea_cons (idu _ (mx 11 rfl)) (nea_cons (idu _ (mx 12 rfl)) (nea_cons (idu _ (mx 13 rfl)) (nea_cons (idu _ (mx 14 rfl)) (nea_cons (Ne.symm (hn _ (mx 10 rfl))) (nea_cons (idu _ (mx 16 rfl)) (nea_cons (idu _ (mx 17 rfl)) (nea_cons (Ne.symm (hn2 _ (mx 10 rfl))) (nea_cons (idu _ (mx 19 rfl)) (nea_cons (idu _ (mx 20 rfl)) (nea_cons (idu _ (mx 21 rfl)) (nea_cons (idu _ (mx 22 rfl)) (nea_cons (idu _ (mx 23 rfl)) (nea_cons (Ne.symm (hr _ (mx 10 rfl))) (nea_cons (idu _ (mx 25 rfl)) (nea_cons (idu _ (mx 26 rfl)) (nea_nil))))))))))))))))))))))))))),
      nea_cons (imk _ (mx 0 rfl)) (nea_cons (imk _ (mx 1 rfl)) (nea_cons (imk _ (mx 2 rfl)) (nea_cons (imk _ (mx 3 rfl)) (nea_cons (imk _ (mx 4 rfl)) (nea_cons (imk _ (mx 5 rfl)) (nea_cons (imk _ (mx 6 rfl)) (nea_cons (imk _ (mx 7 rfl)) (nea_cons (imk _ (mx 8 rfl)) (nea_cons (imk _ (mx 9 rfl)) (nea_cons (imk _ (mx 10 rfl)) (nea_cons (imk _ (mx 11 rfl)) (nea_cons (imk _ (mx 12 rfl)) (nea_cons (imk _ (mx 13 rfl)) (nea_cons (imk _ (mx 14 rfl)) (nea_cons (Ne.symm (hn _ (mx 12 rfl))) (nea_cons (imk _ (mx 16 rfl)) (nea_cons (imk _ (mx 17 rfl)) (nea_cons (Ne.symm (hn2 _ (mx 12 rfl))) (nea_cons (imk _ (mx 19 rfl)) (nea_cons (imk _ (mx 20 rfl)) (nea_cons (imk _ (mx 21 rfl)) (nea_cons (imk _ (mx 22 rfl)) (nea_cons (imk _ (mx 23 rfl)) (nea_cons (Ne.symm (hr _ (mx 12 rfl))) (nea_cons (imk _ (mx 25 rfl)) (nea_cons (imk _ (mx 26 rfl)) (nea_nil))))))))))))))))))))))))))),
      nea_cons (i4 _ (mx 0 rfl)) (nea_cons (i4 _ (mx 1 rfl)) (nea_cons (i4 _ (mx 2 rfl)) (nea_cons (i4 _ (mx 3 rfl)) (nea_cons (i4 _ (mx 4 rfl)) (nea_cons (i4 _ (mx 5 rfl)) (nea_cons (i4 _ (mx 6 rfl)) (nea_cons (i4 _ (mx 7 rfl)) (nea_cons (i4 _ (mx 8 rfl)) (nea_cons (i4 _ (mx 9 rfl)) (nea_cons (i4 _ (mx 10 rfl)) (nea_cons (i4 _ (mx 11 rfl)) (nea_cons (i4 _ (mx 12 rfl)) (nea_cons (i4 _ (mx 13 rfl)) (nea_cons (i4 _ (mx 14 rfl)) (nea_cons (Ne.symm (hn _ (mx 18 rfl))) (nea_cons (i4 _ (mx 16 rfl)) (nea_cons (i4 _ (mx 17 rfl)) (nea_cons (Ne.symm (hn2 _ (mx 18 rfl))) (nea_cons (i4 _ (mx 19 rfl)) (nea_cons (i4 _ (mx 20 rfl)) (nea_cons (i4 _ (mx 21 rfl)) (nea_cons (i4 _ (mx 22 rfl)) (nea_cons (i4 _ (mx 23 rfl)) (nea_cons (Ne.symm (hr _ (mx 18 rfl))) (nea_cons (i4 _ (mx 25 rfl)) (nea_cons (i4 _ (mx 26 rfl)) (nea_nil))))))))))))))))))))))))))),
      nea_cons (i5 _ (mx 0 rfl)) (nea_cons (i5 _ (mx 1 rfl)) (nea_cons (i5 _ (mx 2 rfl)) (nea_cons (i5 _ (mx 3 rfl)) (nea_cons (i5 _ (mx 4 rfl)) (nea_cons (i5 _ (mx 5 rfl)) (nea_cons (i5 _ (mx 6 rfl)) (nea_cons (i5 _ (mx 7 rfl)) (nea_cons (i5 _ (mx 8 rfl)) (nea_cons (i5 _ (mx 9 rfl)) (nea_cons (i5 _ (mx 10 rfl)) (nea_cons (i5 _ (mx 11 rfl)) (nea_cons (i5 _ (mx 12 rfl)) (nea_cons (i5 _ (mx 13 rfl)) (nea_cons (i5 _ (mx 14 rfl)) (nea_cons (Ne.symm (hn _ (mx 19 rfl))) (nea_cons (i5 _ (mx 16 rfl)) (nea_cons (i5 _ (mx 17 rfl)) (nea_cons (Ne.symm (hn2 _ (mx 19 rfl))) (nea_cons (i5 _ (mx 19 rfl)) (nea_cons (i5 _ (mx 20 rfl)) (nea_cons (i5 _ (mx 21 rfl)) (nea_cons (i5 _ (mx 22 rfl)) (nea_cons (i5 _ (mx 23 rfl)) (nea_cons (Ne.symm (hr _ (mx 19 rfl))) (nea_cons (i5 _ (mx 25 rfl)) (nea_cons (i5 _ (mx 26 rfl)) (nea_nil))))))))))))))))))))))))))),
      nea_cons (i6 _ (mx 0 rfl)) (nea_cons (i6 _ (mx 1 rfl)) (nea_cons (i6 _ (mx 2 rfl)) (nea_cons (i6 _ (mx 3 rfl)) (nea_cons (i6 _ (mx 4 rfl)) (nea_cons (i6 _ (mx 5 rfl)) (nea_cons (i6 _ (mx 6 rfl)) (nea_cons (i6 _ (mx 7 rfl)) (nea_cons (i6 _ (mx 8 rfl)) (nea_cons (i6 _ (mx 9 rfl)) (nea_cons (i6 _ (mx 10 rfl)) (nea_cons (i6 _ (mx 11 rfl)) (nea_cons (i6 _ (mx 12 rfl)) (nea_cons (i6 _ (mx 13 rfl)) (nea_cons (i6 _ (mx 14 rfl)) (nea_cons (Ne.symm (hn _ (mx 20 rfl))) (nea_cons (i6 _ (mx 16 rfl)) (nea_cons (i6 _ (mx 17 rfl)) (nea_cons (Ne.symm (hn2 _ (mx 20 rfl))) (nea_cons (i6 _ (mx 19 rfl)) (nea_cons (i6 _ (mx 20 rfl)) (nea_cons (i6 _ (mx 21 rfl)) (nea_cons (i6 _ (mx 22 rfl)) (nea_cons (i6 _ (mx 23 rfl)) (nea_cons (Ne.symm (hr _ (mx 20 rfl))) (nea_cons (i6 _ (mx 25 rfl)) (nea_cons (i6 _ (mx 26 rfl)) (nea_nil))))))))))))))))))))))))))),
      nea_cons (iq0 _ (mx 0 rfl)) (nea_cons (iq0 _ (mx 1 rfl)) (nea_cons (iq0 _ (mx 2 rfl)) (nea_cons (iq0 _ (mx 3 rfl)) (nea_cons (iq0 _ (mx 4 rfl)) (nea_cons (iq0 _ (mx 5 rfl)) (nea_cons (iq0 _ (mx 6 rfl)) (nea_cons (iq0 _ (mx 7 rfl)) (nea_cons (iq0 _ (mx 8 rfl)) (nea_cons (iq0 _ (mx 9 rfl)) (nea_cons (iq0 _ (mx 10 rfl)) (nea_cons (iq0 _ (mx 11 rfl)) (nea_cons (iq0 _ (mx 12 rfl)) (nea_cons (iq0 _ (mx 13 rfl)) (nea_cons (iq0 _ (mx 14 rfl)) (nea_cons (iq0 _ (mx 15 rfl)) (nea_cons (Ne.symm (hn _ (mx 8 rfl))) (nea_cons (iq0 _ (mx 17 rfl)) (nea_cons (iq0 _ (mx 18 rfl)) (nea_cons (Ne.symm (hn2 _ (mx 8 rfl))) (nea_cons (iq0 _ (mx 20 rfl)) (nea_cons (iq0 _ (mx 21 rfl)) (nea_cons (iq0 _ (mx 22 rfl)) (nea_cons (iq0 _ (mx 23 rfl)) (nea_cons (Ne.symm (hr _ (mx 8 rfl))) (nea_cons (iq0 _ (mx 25 rfl)) (nea_cons (iq0 _ (mx 26 rfl)) (nea_nil))))))))))))))))))))))))))),
      nea_cons (iq1 _ (mx 0 rfl)) (nea_cons (iq1 _ (mx 1 rfl)) (nea_cons (iq1 _ (mx 2 rfl)) (nea_cons (iq1 _ (mx 3 rfl)) (nea_cons (iq1 _ (mx 4 rfl)) (nea_cons (iq1 _ (mx 5 rfl)) (nea_cons (iq1 _ (mx 6 rfl)) (nea_cons (iq1 _ (mx 7 rfl)) (nea_cons (iq1 _ (mx 8 rfl)) (nea_cons (iq1 _ (mx 9 rfl)) (nea_cons (iq1 _ (mx 10 rfl)) (nea_cons (iq1 _ (mx 11 rfl)) (nea_cons (iq1 _ (mx 12 rfl)) (nea_cons (iq1 _ (mx 13 rfl)) (nea_cons (iq1 _ (mx 14 rfl)) (nea_cons (iq1 _ (mx 15 rfl)) (nea_cons (Ne.symm (hn _ (mx 26 rfl))) (nea_cons (iq1 _ (mx 17 rfl)) (nea_cons (iq1 _ (mx 18 rfl)) (nea_cons (Ne.symm (hn2 _ (mx 26 rfl))) (nea_cons (iq1 _ (mx 20 rfl)) (nea_cons (iq1 _ (mx 21 rfl)) (nea_cons (iq1 _ (mx 22 rfl)) (nea_cons (iq1 _ (mx 23 rfl)) (nea_cons (Ne.symm (hr _ (mx 26 rfl))) (nea_cons (iq1 _ (mx 25 rfl)) (nea_cons (iq1 _ (mx 26 rfl)) (nea_nil))))))))))))))))))))))))))),
      nea_cons (iq2 _ (mx 0 rfl)) (nea_cons (iq2 _ (mx 1 rfl)) (nea_cons (iq2 _ (mx 2 rfl)) (nea_cons (iq2 _ (mx 3 rfl)) (nea_cons (iq2 _ (mx 4 rfl)) (nea_cons (iq2 _ (mx 5 rfl)) (nea_cons (iq2 _ (mx 6 rfl)) (nea_cons (iq2 _ (mx 7 rfl)) (nea_cons (iq2 _ (mx 8 rfl)) (nea_cons (iq2 _ (mx 9 rfl)) (nea_cons (iq2 _ (mx 10 rfl)) (nea_cons (iq2 _ (mx 11 rfl)) (nea_cons (iq2 _ (mx 12 rfl)) (nea_cons (iq2 _ (mx 13 rfl)) (nea_cons (iq2 _ (mx 14 rfl)) (nea_cons (iq2 _ (mx 15 rfl)) (nea_cons (Ne.symm (hn _ (mx 27 rfl))) (nea_cons (iq2 _ (mx 17 rfl)) (nea_cons (iq2 _ (mx 18 rfl)) (nea_cons (Ne.symm (hn2 _ (mx 27 rfl))) (nea_cons (iq2 _ (mx 20 rfl)) (nea_cons (iq2 _ (mx 21 rfl)) (nea_cons (iq2 _ (mx 22 rfl)) (nea_cons (iq2 _ (mx 23 rfl)) (nea_cons (Ne.symm (hr _ (mx 27 rfl))) (nea_cons (iq2 _ (mx 25 rfl)) (nea_cons (iq2 _ (mx 26 rfl)) (nea_nil))))))))))))))))))))))))))),
      kcu, kdu, kmk, k4, k5, k6, kq0, kq1, kq2⟩
      (nea_cons (jt _ (mx 0 rfl)) (nea_cons (jt _ (mx 1 rfl)) (nea_cons (jt _ (mx 2 rfl)) (nea_cons (jt _ (mx 3 rfl)) (nea_cons (jt _ (mx 4 rfl)) (nea_cons (jt _ (mx 5 rfl)) (nea_cons (jt _ (mx 6 rfl)) (nea_cons (jt _ (mx 7 rfl)) (nea_cons (jt _ (mx 8 rfl)) (nea_cons (jt _ (mx 9 rfl)) (nea_cons (jt _ (mx 10 rfl)) (nea_cons (jt _ (mx 11 rfl)) (nea_cons (jt _ (mx 12 rfl)) (nea_cons (jt _ (mx 13 rfl)) (nea_cons (jt _ (mx 14 rfl)) (nea_cons (jt _ (mx 15 rfl)) (nea_cons (Ne.symm (hn _ (mx 21 rfl))) (nea_cons (jt _ (mx 17 rfl)) (nea_cons (jt _ (mx 18 rfl)) (nea_cons (Ne.symm (hn2 _ (mx 21 rfl))) (nea_cons (jt _ (mx 20 rfl)) (nea_cons (jt _ (mx 21 rfl)) (nea_cons (jt _ (mx 22 rfl)) (nea_cons (jt _ (mx 23 rfl)) (nea_cons (jt _ (mx 24 rfl)) (nea_cons (Ne.symm (hr _ (mx 21 rfl))) (nea_cons (jt _ (mx 26 rfl)) (nea_cons (jt _ (mx 27 rfl)) (nea_nil)))))))))))))))))))))))))))))
theorem body_1 (hfd : fdAt w 417 = some fd) (Tn : Turned w (ktrTop dp un gd cn cs L₁ a ccd cl []) base [envX cn cs L₁ a ccd cl] mean mg mb g c.L h₀ s.heap m (it :: c.led w p o4 o5 o6)) (XB : (KF w.params).In base) (TB : Top qv LS mean mg mb base)
  (hk : cs.kind = .function) (hdp : dp + 9 < recursionLimit) (hu : un + 200 < cLine) (C : CfgOk w c) (S : St c p m) (jt : NeA it.1 (c.adr p))
  (h4 : o4.data = .cell (some (.int i ti))) (h5 : o5.data = .cell (some (.ref sa))) (h6 : o6.data = .cell (some (.bool bt))) (hsa : (sa, ip sx sy tsx tsy) ∈ c.keep) (hi : i = 1)
  (ret : ∀ (g' : Heap) (p' : Pts) (m' : Str → Option Value) (h' : Heap) (tk' : Nat), Turned w (ktrTop dp un gd cn cs L₁ a ccd cl []) base [envX cn cs L₁ a ccd cl] mean mg mb g c.L g' h' m' (it :: c.led w p' o4 o5 o6) → St c p' m' → NeA it.1 (c.adr p') → Q .next { s with heap := h', toks := tk' }) :
  wpAny (model PG w) ((ktrTop dp un gd cn cs L₁ a ccd cl []).deeper (envOfC fd.qualname fd.scope c.L 417 fd.code)) (execs (loopBody fd) (envOfC fd.qualname fd.scope c.L 417 fd.code)) Q (fun _ _ => False) s := by
  subst hi
  obtain ⟨L, so, sd, fr, zx, zd, og, cu, to, en, oc, du, mk, fl, po, p0, p1, p2, q0, q1, q2, fx, fy, P0x, P0y, P1x, P1y, P2x, P2y, tfx, tfy, k1, k2, k3, k4, k5, t6, t7, t8, t9, u6, u7, u8, es, ne, e2, e3, e5, e6, e8, e9, e10, e11, e12, eq0, eq1, eq2, f0, f1, o1, o2, o3, keep⟩ := c
  obtain ⟨c0, c1, c2, d0, d1, d2, r0, r1, r2, x0, y0, x1, y1, x2, y2, tx0, ty0, tx1, ty1, tx2, ty2, ux0, uy0, ux1, uy1, ux2, uy2, a0, b0, a1, b1, a2, b2, er0, er1, er2⟩ := p
  obtain ⟨mst, mz, mo, icu, idu, imk, i4, i5, i6, iq0, iq1, iq2, kcu, kdu, kmk, k4, k5, k6, kq0, kq1, kq2⟩ := S
  obtain ⟨cf0, cf1, hfr, h1, h2, h3, m3, m6, m7, m8, P0, P1, P2⟩ := C
  obtain ⟨Tt, F, N, B, X, T, D⟩ := Tn
  dsimp only [Cfg.led, Cfg.adr] at *
  have hsa1 : sa ∈ keep.map (·.1) := List.mem_map.mpr ⟨_, hsa, rfl⟩
  have N1 := news_add N (inLed _ hsa)
  have N2 := cb_drop N1 toPoint1
  refine point_c (cvs := [.ref c0, .ref c1, .ref c2]) (dvs := [.ref d0, .ref d1, .ref d2]) (tvs := [.ref q0, .ref q1, .ref q2]) (mvs := [.ref r0, .ref r1, .ref r2]) (e4 := eq1) (e7 := er1) hfd B F X N2 T hk hdp hu h1 h2 h3 h4 h5 h6 ?W ?V (inPoint1 _ m3) (inPoint1 _ m6) (inPoint1 _ m7) (inPoint1 _ m8) (inPoint1 _ P0) (inPoint1 _ P1) (inPoint1 _ P2) mst mz mo rfl hfr cf0 cf1 (by decide) (by decide) rfl rfl rfl rfl rfl rfl rfl rfl ?n1 ?n2 ?n3 ?n4 ?ret
  case W =>
    intro j hj hne
    have hj3 : j = 0 ∨ j = 1 ∨ j = 2 := by omega
    rcases hj3 with rfl | rfl | rfl
    · exact ⟨c0, d0, x0, y0, tx0, ty0, ux0, uy0, rfl, rfl, mx 1 rfl, mx 3 rfl⟩
    · exact absurd rfl hne
    · exact ⟨c2, d2, x2, y2, tx2, ty2, ux2, uy2, rfl, rfl, mx 2 rfl, mx 4 rfl⟩
  case V =>
    intro j hj hne
    have hj3 : j = 0 ∨ j = 1 ∨ j = 2 := by omega
    rcases hj3 with rfl | rfl | rfl
    · exact ⟨q0, r0, a0, b0, eq0, er0, rfl, rfl, mx 5 rfl, mx 7 rfl⟩
    · exact absurd rfl hne
    · exact ⟨q2, r2, a2, b2, eq2, er2, rfl, rfl, mx 6 rfl, mx 8 rfl⟩
  case n1 => exact nea_cons (icu _ (mx 0 rfl)) (nea_cons (icu _ (mx 1 rfl)) (nea_cons (icu _ (mx 2 rfl)) (nea_cons (icu _ (mx 3 rfl)) (nea_cons (icu _ (mx 4 rfl)) (nea_cons (icu _ (mx 16 rfl)) (nea_cons (icu _ (mx 5 rfl)) (nea_cons (icu _ (mx 22 rfl)) (nea_cons (kcu _ hsa1) (nea_cons (icu _ (mx 6 rfl)) (nea_cons (icu _ (mx 19 rfl)) (nea_cons (icu _ (mx 7 rfl)) (nea_cons (icu _ (mx 25 rfl)) (nea_cons (icu _ (mx 8 rfl)) (nea_cons (icu _ (mx 9 rfl)) (nea_cons (icu _ (mx 10 rfl)) (nea_cons (icu _ (mx 11 rfl)) (nea_cons (icu _ (mx 12 rfl)) (nea_cons (icu _ (mx 13 rfl)) (nea_cons (icu _ (mx 14 rfl)) (nea_cons (Ne.symm (jt _ (mx 5 rfl))) (nea_cons (icu _ (mx 15 rfl)) (nea_cons (icu _ (mx 17 rfl)) (nea_cons (icu _ (mx 18 rfl)) (nea_cons (icu _ (mx 20 rfl)) (nea_cons (icu _ (mx 21 rfl)) (nea_cons (icu _ (mx 23 rfl)) (nea_cons (icu _ (mx 24 rfl)) (nea_cons (icu _ (mx 26 rfl)) (kcu)))))))))))))))))))))))))))))
  case n2 => exact nea_cons (iq1 _ (mx 0 rfl)) (nea_cons (iq1 _ (mx 1 rfl)) (nea_cons (iq1 _ (mx 2 rfl)) (nea_cons (iq1 _ (mx 3 rfl)) (nea_cons (iq1 _ (mx 4 rfl)) (nea_cons (iq1 _ (mx 5 rfl)) (nea_cons (iq1 _ (mx 17 rfl)) (nea_cons (iq1 _ (mx 6 rfl)) (nea_cons (kq1 _ hsa1) (nea_cons (iq1 _ (mx 7 rfl)) (nea_cons (iq1 _ (mx 20 rfl)) (nea_cons (iq1 _ (mx 8 rfl)) (nea_cons (iq1 _ (mx 25 rfl)) (nea_cons (iq1 _ (mx 9 rfl)) (nea_cons (iq1 _ (mx 10 rfl)) (nea_cons (iq1 _ (mx 11 rfl)) (nea_cons (iq1 _ (mx 12 rfl)) (nea_cons (iq1 _ (mx 13 rfl)) (nea_cons (iq1 _ (mx 14 rfl)) (nea_cons (iq1 _ (mx 15 rfl)) (nea_cons (Ne.symm (jt _ (mx 23 rfl))) (nea_cons (iq1 _ (mx 16 rfl)) (nea_cons (iq1 _ (mx 18 rfl)) (nea_cons (iq1 _ (mx 19 rfl)) (nea_cons (iq1 _ (mx 21 rfl)) (nea_cons (iq1 _ (mx 22 rfl)) (nea_cons (iq1 _ (mx 23 rfl)) (nea_cons (iq1 _ (mx 24 rfl)) (nea_cons (iq1 _ (mx 26 rfl)) (kq1)))))))))))))))))))))))))))))
  case n3 => exact nea_cons (idu _ (mx 0 rfl)) (nea_cons (idu _ (mx 1 rfl)) (nea_cons (idu _ (mx 2 rfl)) (nea_cons (idu _ (mx 3 rfl)) (nea_cons (idu _ (mx 4 rfl)) (nea_cons (idu _ (mx 5 rfl)) (nea_cons (idu _ (mx 16 rfl)) (nea_cons (idu _ (mx 6 rfl)) (nea_cons (idu _ (mx 22 rfl)) (nea_cons (kdu _ hsa1) (nea_cons (idu _ (mx 19 rfl)) (nea_cons (idu _ (mx 7 rfl)) (nea_cons (idu _ (mx 25 rfl)) (nea_cons (idu _ (mx 8 rfl)) (nea_cons (idu _ (mx 9 rfl)) (nea_cons (idu _ (mx 10 rfl)) (nea_cons (idu _ (mx 11 rfl)) (nea_cons (idu _ (mx 12 rfl)) (nea_cons (idu _ (mx 13 rfl)) (nea_cons (idu _ (mx 14 rfl)) (nea_cons (Ne.symm (jt _ (mx 7 rfl))) (nea_cons (idu _ (mx 15 rfl)) (nea_cons (idu _ (mx 17 rfl)) (nea_cons (idu _ (mx 18 rfl)) (nea_cons (idu _ (mx 20 rfl)) (nea_cons (idu _ (mx 21 rfl)) (nea_cons (idu _ (mx 23 rfl)) (nea_cons (idu _ (mx 24 rfl)) (nea_cons (idu _ (mx 26 rfl)) (kdu)))))))))))))))))))))))))))))
  case n4 => exact nea_cons (imk _ (mx 0 rfl)) (nea_cons (imk _ (mx 1 rfl)) (nea_cons (imk _ (mx 2 rfl)) (nea_cons (imk _ (mx 3 rfl)) (nea_cons (imk _ (mx 4 rfl)) (nea_cons (imk _ (mx 5 rfl)) (nea_cons (imk _ (mx 16 rfl)) (nea_cons (imk _ (mx 6 rfl)) (nea_cons (imk _ (mx 22 rfl)) (nea_cons (kmk _ hsa1) (nea_cons (imk _ (mx 7 rfl)) (nea_cons (imk _ (mx 19 rfl)) (nea_cons (imk _ (mx 25 rfl)) (nea_cons (imk _ (mx 8 rfl)) (nea_cons (imk _ (mx 9 rfl)) (nea_cons (imk _ (mx 10 rfl)) (nea_cons (imk _ (mx 11 rfl)) (nea_cons (imk _ (mx 12 rfl)) (nea_cons (imk _ (mx 13 rfl)) (nea_cons (imk _ (mx 14 rfl)) (nea_cons (Ne.symm (jt _ (mx 8 rfl))) (nea_cons (imk _ (mx 15 rfl)) (nea_cons (imk _ (mx 17 rfl)) (nea_cons (imk _ (mx 18 rfl)) (nea_cons (imk _ (mx 20 rfl)) (nea_cons (imk _ (mx 21 rfl)) (nea_cons (imk _ (mx 23 rfl)) (nea_cons (imk _ (mx 24 rfl)) (nea_cons (imk _ (mx 26 rfl)) (kmk)))))))))))))))))))))))))))))
  case ret =>
    intro n n2 r v1 v2 v3 v4 e' m' h' tk' F' hs' hz' ho' N' hn hn2 hr
    rw [mv_is cf0, mv_is cf1, tch_is cf0, tch_is cf1] at N'
    have N3 := cb_drop N' fromPoint1
    exact ret h₀ ⟨c0, n, c2, d0, n2, d2, r0, r, r2, x0, y0, w32 (x1 + if f0 = true then sx else 0), w32 (y1 + if f1 = true then sy else 0), x2, y2, tx0, ty0, v1, v2, tx2, ty2, ux0, uy0, v3, v4, ux2, uy2, a0, b0, (a1 || (bt && f0)), (b1 || (bt && f1)), a2, b2, er0, e', er2⟩ m' h' tk' ⟨Tt, F', N3, B, X, T, D⟩ ⟨hs', hz', ho',
      nea_cons (icu _ (mx 0 rfl)) (nea_cons (icu _ (mx 1 rfl)) (nea_cons (icu _ (mx 2 rfl)) (nea_cons (icu _ (mx 3 rfl)) (nea_cons (icu _ (mx 4 rfl)) (nea_cons (icu _ (mx 5 rfl)) (nea_cons (icu _ (mx 6 rfl)) (nea_cons (icu _ (mx 7 rfl)) (nea_cons (icu _ (mx 8 rfl)) (nea_cons (icu _ (mx 9 rfl)) (nea_cons (icu _ (mx 10 rfl)) (nea_cons (icu _ (mx 11 rfl)) (nea_cons (icu _ (mx 12 rfl)) (nea_cons (icu _ (mx 13 rfl)) (nea_cons (icu _ (mx 14 rfl)) (nea_cons (icu _ (mx 15 rfl)) (nea_cons (Ne.symm (hn _ (mx 5 rfl))) (nea_cons (icu _ (mx 17 rfl)) (nea_cons (icu _ (mx 18 rfl)) (nea_cons (Ne.symm (hn2 _ (mx 5 rfl))) (nea_cons (icu _ (mx 20 rfl)) (nea_cons (icu _ (mx 21 rfl)) (nea_cons (icu _ (mx 22 rfl)) (nea_cons (icu _ (mx 23 rfl)) (nea_cons (icu _ (mx 24 rfl)) (nea_cons (Ne.symm (hr _ (mx 5 rfl))) (nea_cons (icu _ (mx 26 rfl)) (nea_nil))))))))))))))))))))))))))),
      nea_cons (idu _ (mx 0 rfl)) (nea_cons (idu _ (mx 1 rfl)) (nea_cons (idu _ (mx 2 rfl)) (nea_cons (idu _ (mx 3 rfl)) (nea_cons (idu _ (mx 4 rfl)) (nea_cons (idu _ (mx 5 rfl)) (nea_cons (idu _ (mx 6 rfl)) (nea_cons (idu _ (mx 7 rfl)) (nea_cons (idu _ (mx 8 rfl)) (nea_cons (idu _ (mx 9 rfl)) (nea_cons (idu _ (mx 10 rfl)) (nea_cons (idu _ (mx 11 rfl)) (nea_cons (idu _ (mx 12 rfl)) (nea_cons (idu _ (mx 13 rfl)) (nea_cons (idu _ (mx 14 rfl)) (nea_cons (idu _ (mx 15 rfl)) (nea_cons (Ne.symm (hn _ (mx 10 rfl))) (nea_cons (idu _ (mx 17 rfl)) (nea_cons (idu _ (mx 18 rfl)) (nea_cons (Ne.symm (hn2 _ (mx 10 rfl))) (nea_cons (idu _ (mx 20 rfl)) (nea_cons (idu _ (mx 21 rfl)) (nea_cons (idu _ (mx 22 rfl)) (nea_cons (idu _ (mx 23 rfl)) (nea_cons (idu _ (mx 24 rfl)) (nea_cons (Ne.symm (hr _ (mx 10 rfl))) (nea_cons (idu _ (mx 26 rfl)) (nea_nil))))))))))))))))))))))))))),
      nea_cons (imk _ (mx 0 rfl)) (nea_cons (imk _ (mx 1 rfl)) (nea_cons (imk _ (mx 2 rfl)) (nea_cons (imk _ (mx 3 rfl)) (nea_cons (imk _ (mx 4 rfl)) (nea_cons (imk _ (mx 5 rfl)) (nea_cons (imk _ (mx 6 rfl)) (nea_cons (imk _ (mx 7 rfl)) (nea_cons (imk _ (mx 8 rfl)) (nea_cons (imk _ (mx 9 rfl)) (nea_cons (imk _ (mx 10 rfl)) (nea_cons (imk _ (mx 11 rfl)) (nea_cons (imk _ (mx 12 rfl)) (nea_cons (imk _ (mx 13 rfl)) (nea_cons (imk _ (mx 14 rfl)) (nea_cons (imk _ (mx 15 rfl)) (nea_cons (Ne.symm (hn _ (mx 12 rfl))) (nea_cons (imk _ (mx 17 rfl)) (nea_cons (imk _ (mx 18 rfl)) (nea_cons (Ne.symm (hn2 _ (mx 12 rfl))) (nea_cons (imk _ (mx 20 rfl)) (nea_cons (imk _ (mx 21 rfl)) (nea_cons (imk _ (mx 22 rfl)) (nea_cons (imk _ (mx 23 rfl)) (nea_cons (imk _ (mx 24 rfl)) (nea_cons (Ne.symm (hr _ (mx 12 rfl))) (nea_cons (imk _ (mx 26 rfl)) (nea_nil))))))))))))))))))))))))))),
      nea_cons (i4 _ (mx 0 rfl)) (nea_cons (i4 _ (mx 1 rfl)) (nea_cons (i4 _ (mx 2 rfl)) (nea_cons (i4 _ (mx 3 rfl)) (nea_cons (i4 _ (mx 4 rfl)) (nea_cons (i4 _ (mx 5 rfl)) (nea_cons (i4 _ (mx 6 rfl)) (nea_cons (i4 _ (mx 7 rfl)) (nea_cons (i4 _ (mx 8 rfl)) (nea_cons (i4 _ (mx 9 rfl)) (nea_cons (i4 _ (mx 10 rfl)) (nea_cons (i4 _ (mx 11 rfl)) (nea_cons (i4 _ (mx 12 rfl)) (nea_cons (i4 _ (mx 13 rfl)) (nea_cons (i4 _ (mx 14 rfl)) (nea_cons (i4 _ (mx 15 rfl)) (nea_cons (Ne.symm (hn _ (mx 18 rfl))) (nea_cons (i4 _ (mx 17 rfl)) (nea_cons (i4 _ (mx 18 rfl)) (nea_cons (Ne.symm (hn2 _ (mx 18 rfl))) (nea_cons (i4 _ (mx 20 rfl)) (nea_cons (i4 _ (mx 21 rfl)) (nea_cons (i4 _ (mx 22 rfl)) (nea_cons (i4 _ (mx 23 rfl)) (nea_cons (i4 _ (mx 24 rfl)) (nea_cons (Ne.symm (hr _ (mx 18 rfl))) (nea_cons (i4 _ (mx 26 rfl)) (nea_nil))))))))))))))))))))))))))),
      nea_cons (i5 _ (mx 0 rfl)) (nea_cons (i5 _ (mx 1 rfl)) (nea_cons (i5 _ (mx 2 rfl)) (nea_cons (i5 _ (mx 3 rfl)) (nea_cons (i5 _ (mx 4 rfl)) (nea_cons (i5 _ (mx 5 rfl)) (nea_cons (i5 _ (mx 6 rfl)) (nea_cons (i5 _ (mx 7 rfl)) (nea_cons (i5 _ (mx 8 rfl)) (nea_cons (i5 _ (mx 9 rfl)) (nea_cons (i5 _ (mx 10 rfl)) (nea_cons (i5 _ (mx 11 rfl)) (nea_cons (i5 _ (mx 12 rfl)) (nea_cons (i5 _ (mx 13 rfl)) (nea_cons (i5 _ (mx 14 rfl)) (nea_cons (i5 _ (mx 15 rfl)) (nea_cons (Ne.symm (hn _ (mx 19 rfl))) (nea_cons (i5 _ (mx 17 rfl)) (nea_cons (i5 _ (mx 18 rfl)) (nea_cons (Ne.symm (hn2 _ (mx 19 rfl))) (nea_cons (i5 _ (mx 20 rfl)) (nea_cons (i5 _ (mx 21 rfl)) (nea_cons (i5 _ (mx 22 rfl)) (nea_cons (i5 _ (mx 23 rfl)) (nea_cons (i5 _ (mx 24 rfl)) (nea_cons (Ne.symm (hr _ (mx 19 rfl))) (nea_cons (i5 _ (mx 26 rfl)) (nea_nil))))))))))))))))))))))))))),
      nea_cons (i6 _ (mx 0 rfl)) (nea_cons (i6 _ (mx 1 rfl)) (nea_cons (i6 _ (mx 2 rfl)) (nea_cons (i6 _ (mx 3 rfl)) (nea_cons (i6 _ (mx 4 rfl)) (nea_cons (i6 _ (mx 5 rfl)) (nea_cons (i6 _ (mx 6 rfl)) (nea_cons (i6 _ (mx 7 rfl)) (nea_cons (i6 _ (mx 8 rfl)) (nea_cons (i6 _ (mx 9 rfl)) (nea_cons (i6 _ (mx 10 rfl)) (nea_cons (i6 _ (mx 11 rfl)) (nea_cons (i6 _ (mx 12 rfl)) (nea_cons (i6 _ (mx 13 rfl)) (nea_cons (i6 _ (mx 14 rfl)) (nea_cons (i6 _ (mx 15 rfl)) (nea_cons (Ne.symm (hn _ (mx 20 rfl))) (nea_cons (i6 _ (mx 17 rfl)) (nea_cons (i6 _ (mx 18 rfl)) (nea_cons (Ne.symm (hn2 _ (mx 20 rfl))) (nea_cons (i6 _ (mx 20 rfl)) (nea_cons (i6 _ (mx 21 rfl)) (nea_cons (i6 _ (mx 22 rfl)) (nea_cons (i6 _ (mx 23 rfl)) (nea_cons (i6 _ (mx 24 rfl)) (nea_cons (Ne.symm (hr _ (mx 20 rfl))) (nea_cons (i6 _ (mx 26 rfl)) (nea_nil))))))))))))))))))))))))))),
      nea_cons (iq0 _ (mx 0 rfl)) (nea_cons (iq0 _ (mx 1 rfl)) (nea_cons (iq0 _ (mx 2 rfl)) (nea_cons (iq0 _ (mx 3 rfl)) (nea_cons (iq0 _ (mx 4 rfl)) (nea_cons (iq0 _ (mx 5 rfl)) (nea_cons (iq0 _ (mx 6 rfl)) (nea_cons (iq0 _ (mx 7 rfl)) (nea_cons (iq0 _ (mx 8 rfl)) (nea_cons (iq0 _ (mx 9 rfl)) (nea_cons (iq0 _ (mx 10 rfl)) (nea_cons (iq0 _ (mx 11 rfl)) (nea_cons (iq0 _ (mx 12 rfl)) (nea_cons (iq0 _ (mx 13 rfl)) (nea_cons (iq0 _ (mx 14 rfl)) (nea_cons (iq0 _ (mx 15 rfl)) (nea_cons (iq0 _ (mx 16 rfl)) (nea_cons (Ne.symm (hn _ (mx 26 rfl))) (nea_cons (iq0 _ (mx 18 rfl)) (nea_cons (iq0 _ (mx 19 rfl)) (nea_cons (Ne.symm (hn2 _ (mx 26 rfl))) (nea_cons (iq0 _ (mx 21 rfl)) (nea_cons (iq0 _ (mx 22 rfl)) (nea_cons (iq0 _ (mx 23 rfl)) (nea_cons (iq0 _ (mx 24 rfl)) (nea_cons (Ne.symm (hr _ (mx 26 rfl))) (nea_cons (iq0 _ (mx 26 rfl)) (nea_nil))))))))))))))))))))))))))),
      nea_cons (iq1 _ (mx 0 rfl)) (nea_cons (iq1 _ (mx 1 rfl)) (nea_cons (iq1 _ (mx 2 rfl)) (nea_cons (iq1 _ (mx 3 rfl)) (nea_cons (iq1 _ (mx 4 rfl)) (nea_cons (iq1 _ (mx 5 rfl)) (nea_cons (iq1 _ (mx 6 rfl)) (nea_cons (iq1 _ (mx 7 rfl)) (nea_cons (iq1 _ (mx 8 rfl)) (nea_cons (iq1 _ (mx 9 rfl)) (nea_cons (iq1 _ (mx 10 rfl)) (nea_cons (iq1 _ (mx 11 rfl)) (nea_cons (iq1 _ (mx 12 rfl)) (nea_cons (iq1 _ (mx 13 rfl)) (nea_cons (iq1 _ (mx 14 rfl)) (nea_cons (iq1 _ (mx 15 rfl)) (nea_cons (iq1 _ (mx 16 rfl)) (nea_cons (Ne.symm (hn _ (mx 8 rfl))) (nea_cons (iq1 _ (mx 18 rfl)) (nea_cons (iq1 _ (mx 19 rfl)) (nea_cons (Ne.symm (hn2 _ (mx 8 rfl))) (nea_cons (iq1 _ (mx 21 rfl)) (nea_cons (iq1 _ (mx 22 rfl)) (nea_cons (iq1 _ (mx 23 rfl)) (nea_cons (iq1 _ (mx 24 rfl)) (nea_cons (Ne.symm (hr _ (mx 8 rfl))) (nea_cons (iq1 _ (mx 26 rfl)) (nea_nil))))))))))))))))))))))))))),
      nea_cons (iq2 _ (mx 0 rfl)) (nea_cons (iq2 _ (mx 1 rfl)) (nea_cons (iq2 _ (mx 2 rfl)) (nea_cons (iq2 _ (mx 3 rfl)) (nea_cons (iq2 _ (mx 4 rfl)) (nea_cons (iq2 _ (mx 5 rfl)) (nea_cons (iq2 _ (mx 6 rfl)) (nea_cons (iq2 _ (mx 7 rfl)) (nea_cons (iq2 _ (mx 8 rfl)) (nea_cons (iq2 _ (mx 9 rfl)) (nea_cons (iq2 _ (mx 10 rfl)) (nea_cons (iq2 _ (mx 11 rfl)) (nea_cons (iq2 _ (mx 12 rfl)) (nea_cons (iq2 _ (mx 13 rfl)) (nea_cons (iq2 _ (mx 14 rfl)) (nea_cons (iq2 _ (mx 15 rfl)) (nea_cons (iq2 _ (mx 16 rfl)) (nea_cons (Ne.symm (hn _ (mx 27 rfl))) (nea_cons (iq2 _ (mx 18 rfl)) (nea_cons (iq2 _ (mx 19 rfl)) (nea_cons (Ne.symm (hn2 _ (mx 27 rfl))) (nea_cons (iq2 _ (mx 21 rfl)) (nea_cons (iq2 _ (mx 22 rfl)) (nea_cons (iq2 _ (mx 23 rfl)) (nea_cons (iq2 _ (mx 24 rfl)) (nea_cons (Ne.symm (hr _ (mx 27 rfl))) (nea_cons (iq2 _ (mx 26 rfl)) (nea_nil))))))))))))))))))))))))))),
      kcu, kdu, kmk, k4, k5, k6, kq0, kq1, kq2⟩
      (nea_cons (jt _ (mx 0 rfl)) (nea_cons (jt _ (mx 1 rfl)) (nea_cons (jt _ (mx 2 rfl)) (nea_cons (jt _ (mx 3 rfl)) (nea_cons (jt _ (mx 4 rfl)) (nea_cons (jt _ (mx 5 rfl)) (nea_cons (jt _ (mx 6 rfl)) (nea_cons (jt _ (mx 7 rfl)) (nea_cons (jt _ (mx 8 rfl)) (nea_cons (jt _ (mx 9 rfl)) (nea_cons (jt _ (mx 10 rfl)) (nea_cons (jt _ (mx 11 rfl)) (nea_cons (jt _ (mx 12 rfl)) (nea_cons (jt _ (mx 13 rfl)) (nea_cons (jt _ (mx 14 rfl)) (nea_cons (jt _ (mx 15 rfl)) (nea_cons (jt _ (mx 16 rfl)) (nea_cons (Ne.symm (hn _ (mx 21 rfl))) (nea_cons (jt _ (mx 18 rfl)) (nea_cons (jt _ (mx 19 rfl)) (nea_cons (Ne.symm (hn2 _ (mx 21 rfl))) (nea_cons (jt _ (mx 21 rfl)) (nea_cons (jt _ (mx 22 rfl)) (nea_cons (jt _ (mx 23 rfl)) (nea_cons (jt _ (mx 24 rfl)) (nea_cons (jt _ (mx 25 rfl)) (nea_cons (Ne.symm (hr _ (mx 21 rfl))) (nea_cons (jt _ (mx 27 rfl)) (nea_nil)))))))))))))))))))))))))))))
theorem body_2 (hfd : fdAt w 417 = some fd) (Tn : Turned w (ktrTop dp un gd cn cs L₁ a ccd cl []) base [envX cn cs L₁ a ccd cl] mean mg mb g c.L h₀ s.heap m (it :: c.led w p o4 o5 o6)) (XB : (KF w.params).In base) (TB : Top qv LS mean mg mb base)
  (hk : cs.kind = .function) (hdp : dp + 9 < recursionLimit) (hu : un + 200 < cLine) (C : CfgOk w c) (S : St c p m) (jt : NeA it.1 (c.adr p))
  (h4 : o4.data = .cell (some (.int i ti))) (h5 : o5.data = .cell (some (.ref sa))) (h6 : o6.data = .cell (some (.bool bt))) (hsa : (sa, ip sx sy tsx tsy) ∈ c.keep) (hi : i = 2)
  (ret : ∀ (g' : Heap) (p' : Pts) (m' : Str → Option Value) (h' : Heap) (tk' : Nat), Turned w (ktrTop dp un gd cn cs L₁ a ccd cl []) base [envX cn cs L₁ a ccd cl] mean mg mb g c.L g' h' m' (it :: c.led w p' o4 o5 o6) → St c p' m' → NeA it.1 (c.adr p') → Q .next { s with heap := h', toks := tk' }) :
  wpAny (model PG w) ((ktrTop dp un gd cn cs L₁ a ccd cl []).deeper (envOfC fd.qualname fd.scope c.L 417 fd.code)) (execs (loopBody fd) (envOfC fd.qualname fd.scope c.L 417 fd.code)) Q (fun _ _ => False) s := by
  subst hi
  obtain ⟨L, so, sd, fr, zx, zd, og, cu, to, en, oc, du, mk, fl, po, p0, p1, p2, q0, q1, q2, fx, fy, P0x, P0y, P1x, P1y, P2x, P2y, tfx, tfy, k1, k2, k3, k4, k5, t6, t7, t8, t9, u6, u7, u8, es, ne, e2, e3, e5, e6, e8, e9, e10, e11, e12, eq0, eq1, eq2, f0, f1, o1, o2, o3, keep⟩ := c
  obtain ⟨c0, c1, c2, d0, d1, d2, r0, r1, r2, x0, y0, x1, y1, x2, y2, tx0, ty0, tx1, ty1, tx2, ty2, ux0, uy0, ux1, uy1, ux2, uy2, a0, b0, a1, b1, a2, b2, er0, er1, er2⟩ := p
  obtain ⟨mst, mz, mo, icu, idu, imk, i4, i5, i6, iq0, iq1, iq2, kcu, kdu, kmk, k4, k5, k6, kq0, kq1, kq2⟩ := S
  obtain ⟨cf0, cf1, hfr, h1, h2, h3, m3, m6, m7, m8, P0, P1, P2⟩ := C
  obtain ⟨Tt, F, N, B, X, T, D⟩ := Tn
  dsimp only [Cfg.led, Cfg.adr] at *
  have hsa1 : sa ∈ keep.map (·.1) := List.mem_map.mpr ⟨_, hsa, rfl⟩
  have N1 := news_add N (inLed _ hsa)
  have N2 := cb_drop N1 toPoint2
  refine point_c (cvs := [.ref c0, .ref c1, .ref c2]) (dvs := [.ref d0, .ref d1, .ref d2]) (tvs := [.ref q0, .ref q1, .ref q2]) (mvs := [.ref r0, .ref r1, .ref r2]) (e4 := eq2) (e7 := er2) hfd B F X N2 T hk hdp hu h1 h2 h3 h4 h5 h6 ?W ?V (inPoint2 _ m3) (inPoint2 _ m6) (inPoint2 _ m7) (inPoint2 _ m8) (inPoint2 _ P0) (inPoint2 _ P1) (inPoint2 _ P2) mst mz mo rfl hfr cf0 cf1 (by decide) (by decide) rfl rfl rfl rfl rfl rfl rfl rfl ?n1 ?n2 ?n3 ?n4 ?ret
  case W =>
    intro j hj hne
    have hj3 : j = 0 ∨ j = 1 ∨ j = 2 := by omega
    rcases hj3 with rfl | rfl | rfl
    · exact ⟨c0, d0, x0, y0, tx0, ty0, ux0, uy0, rfl, rfl, mx 1 rfl, mx 3 rfl⟩
    · exact ⟨c1, d1, x1, y1, tx1, ty1, ux1, uy1, rfl, rfl, mx 2 rfl, mx 4 rfl⟩
    · exact absurd rfl hne
  case V =>
    intro j hj hne
    have hj3 : j = 0 ∨ j = 1 ∨ j = 2 := by omega
    rcases hj3 with rfl | rfl | rfl
    · exact ⟨q0, r0, a0, b0, eq0, er0, rfl, rfl, mx 5 rfl, mx 7 rfl⟩
    · exact ⟨q1, r1, a1, b1, eq1, er1, rfl, rfl, mx 6 rfl, mx 8 rfl⟩
    · exact absurd rfl hne
  case n1 => exact nea_cons (icu _ (mx 0 rfl)) (nea_cons (icu _ (mx 1 rfl)) (nea_cons (icu _ (mx 2 rfl)) (nea_cons (icu _ (mx 3 rfl)) (nea_cons (icu _ (mx 4 rfl)) (nea_cons (icu _ (mx 17 rfl)) (nea_cons (icu _ (mx 5 rfl)) (nea_cons (icu _ (mx 23 rfl)) (nea_cons (kcu _ hsa1) (nea_cons (icu _ (mx 6 rfl)) (nea_cons (icu _ (mx 20 rfl)) (nea_cons (icu _ (mx 7 rfl)) (nea_cons (icu _ (mx 26 rfl)) (nea_cons (icu _ (mx 8 rfl)) (nea_cons (icu _ (mx 9 rfl)) (nea_cons (icu _ (mx 10 rfl)) (nea_cons (icu _ (mx 11 rfl)) (nea_cons (icu _ (mx 12 rfl)) (nea_cons (icu _ (mx 13 rfl)) (nea_cons (icu _ (mx 14 rfl)) (nea_cons (Ne.symm (jt _ (mx 5 rfl))) (nea_cons (icu _ (mx 15 rfl)) (nea_cons (icu _ (mx 16 rfl)) (nea_cons (icu _ (mx 18 rfl)) (nea_cons (icu _ (mx 19 rfl)) (nea_cons (icu _ (mx 21 rfl)) (nea_cons (icu _ (mx 22 rfl)) (nea_cons (icu _ (mx 24 rfl)) (nea_cons (icu _ (mx 25 rfl)) (kcu)))))))))))))))))))))))))))))
  case n2 => exact nea_cons (iq2 _ (mx 0 rfl)) (nea_cons (iq2 _ (mx 1 rfl)) (nea_cons (iq2 _ (mx 2 rfl)) (nea_cons (iq2 _ (mx 3 rfl)) (nea_cons (iq2 _ (mx 4 rfl)) (nea_cons (iq2 _ (mx 5 rfl)) (nea_cons (iq2 _ (mx 18 rfl)) (nea_cons (iq2 _ (mx 6 rfl)) (nea_cons (kq2 _ hsa1) (nea_cons (iq2 _ (mx 7 rfl)) (nea_cons (iq2 _ (mx 21 rfl)) (nea_cons (iq2 _ (mx 8 rfl)) (nea_cons (iq2 _ (mx 26 rfl)) (nea_cons (iq2 _ (mx 9 rfl)) (nea_cons (iq2 _ (mx 10 rfl)) (nea_cons (iq2 _ (mx 11 rfl)) (nea_cons (iq2 _ (mx 12 rfl)) (nea_cons (iq2 _ (mx 13 rfl)) (nea_cons (iq2 _ (mx 14 rfl)) (nea_cons (iq2 _ (mx 15 rfl)) (nea_cons (Ne.symm (jt _ (mx 24 rfl))) (nea_cons (iq2 _ (mx 16 rfl)) (nea_cons (iq2 _ (mx 17 rfl)) (nea_cons (iq2 _ (mx 19 rfl)) (nea_cons (iq2 _ (mx 20 rfl)) (nea_cons (iq2 _ (mx 22 rfl)) (nea_cons (iq2 _ (mx 23 rfl)) (nea_cons (iq2 _ (mx 24 rfl)) (nea_cons (iq2 _ (mx 25 rfl)) (kq2)))))))))))))))))))))))))))))
  case n3 => exact nea_cons (idu _ (mx 0 rfl)) (nea_cons (idu _ (mx 1 rfl)) (nea_cons (idu _ (mx 2 rfl)) (nea_cons (idu _ (mx 3 rfl)) (nea_cons (idu _ (mx 4 rfl)) (nea_cons (idu _ (mx 5 rfl)) (nea_cons (idu _ (mx 17 rfl)) (nea_cons (idu _ (mx 6 rfl)) (nea_cons (idu _ (mx 23 rfl)) (nea_cons (kdu _ hsa1) (nea_cons (idu _ (mx 20 rfl)) (nea_cons (idu _ (mx 7 rfl)) (nea_cons (idu _ (mx 26 rfl)) (nea_cons (idu _ (mx 8 rfl)) (nea_cons (idu _ (mx 9 rfl)) (nea_cons (idu _ (mx 10 rfl)) (nea_cons (idu _ (mx 11 rfl)) (nea_cons (idu _ (mx 12 rfl)) (nea_cons (idu _ (mx 13 rfl)) (nea_cons (idu _ (mx 14 rfl)) (nea_cons (Ne.symm (jt _ (mx 7 rfl))) (nea_cons (idu _ (mx 15 rfl)) (nea_cons (idu _ (mx 16 rfl)) (nea_cons (idu _ (mx 18 rfl)) (nea_cons (idu _ (mx 19 rfl)) (nea_cons (idu _ (mx 21 rfl)) (nea_cons (idu _ (mx 22 rfl)) (nea_cons (idu _ (mx 24 rfl)) (nea_cons (idu _ (mx 25 rfl)) (kdu)))))))))))))))))))))))))))))
  case n4 => exact nea_cons (imk _ (mx 0 rfl)) (nea_cons (imk _ (mx 1 rfl)) (nea_cons (imk _ (mx 2 rfl)) (nea_cons (imk _ (mx 3 rfl)) (nea_cons (imk _ (mx 4 rfl)) (nea_cons (imk _ (mx 5 rfl)) (nea_cons (imk _ (mx 17 rfl)) (nea_cons (imk _ (mx 6 rfl)) (nea_cons (imk _ (mx 23 rfl)) (nea_cons (kmk _ hsa1) (nea_cons (imk _ (mx 7 rfl)) (nea_cons (imk _ (mx 20 rfl)) (nea_cons (imk _ (mx 26 rfl)) (nea_cons (imk _ (mx 8 rfl)) (nea_cons (imk _ (mx 9 rfl)) (nea_cons (imk _ (mx 10 rfl)) (nea_cons (imk _ (mx 11 rfl)) (nea_cons (imk _ (mx 12 rfl)) (nea_cons (imk _ (mx 13 rfl)) (nea_cons (imk _ (mx 14 rfl)) (nea_cons (Ne.symm (jt _ (mx 8 rfl))) (nea_cons (imk _ (mx 15 rfl)) (nea_cons (imk _ (mx 16 rfl)) (nea_cons (imk _ (mx 18 rfl)) (nea_cons (imk _ (mx 19 rfl)) (nea_cons (imk _ (mx 21 rfl)) (nea_cons (imk _ (mx 22 rfl)) (nea_cons (imk _ (mx 24 rfl)) (nea_cons (imk _ (mx 25 rfl)) (kmk)))))))))))))))))))))))))))))
  case ret =>
    intro n n2 r v1 v2 v3 v4 e' m' h' tk' F' hs' hz' ho' N' hn hn2 hr
    rw [mv_is cf0, mv_is cf1, tch_is cf0, tch_is cf1] at N'
    have N3 := cb_drop N' fromPoint2
    exact ret h₀ ⟨c0, c1, n, d0, d1, n2, r0, r1, r, x0, y0, x1, y1, w32 (x2 + if f0 = true then sx else 0), w32 (y2 + if f1 = true then sy else 0), tx0, ty0, tx1, ty1, v1, v2, ux0, uy0, ux1, uy1, v3, v4, a0, b0, a1, b1, (a2 || (bt && f0)), (b2 || (bt && f1)), er0, er1, e'⟩ m' h' tk' ⟨Tt, F', N3, B, X, T, D⟩ ⟨hs', hz', ho',
      nea_cons (icu _ (mx 0 rfl)) (nea_cons (icu _ (mx 1 rfl)) (nea_cons (icu _ (mx 2 rfl)) (nea_cons (icu _ (mx 3 rfl)) (nea_cons (icu _ (mx 4 rfl)) (nea_cons (icu _ (mx 5 rfl)) (nea_cons (icu _ (mx 6 rfl)) (nea_cons (icu _ (mx 7 rfl)) (nea_cons (icu _ (mx 8 rfl)) (nea_cons (icu _ (mx 9 rfl)) (nea_cons (icu _ (mx 10 rfl)) (nea_cons (icu _ (mx 11 rfl)) (nea_cons (icu _ (mx 12 rfl)) (nea_cons (icu _ (mx 13 rfl)) (nea_cons (icu _ (mx 14 rfl)) (nea_cons (icu _ (mx 15 rfl)) (nea_cons (icu _ (mx 16 rfl)) (nea_cons (Ne.symm (hn _ (mx 5 rfl))) (nea_cons (icu _ (mx 18 rfl)) (nea_cons (icu _ (mx 19 rfl)) (nea_cons (Ne.symm (hn2 _ (mx 5 rfl))) (nea_cons (icu _ (mx 21 rfl)) (nea_cons (icu _ (mx 22 rfl)) (nea_cons (icu _ (mx 23 rfl)) (nea_cons (icu _ (mx 24 rfl)) (nea_cons (icu _ (mx 25 rfl)) (nea_cons (Ne.symm (hr _ (mx 5 rfl))) (nea_nil))))))))))))))))))))))))))),
      nea_cons (idu _ (mx 0 rfl)) (nea_cons (idu _ (mx 1 rfl)) (nea_cons (idu _ (mx 2 rfl)) (nea_cons (idu _ (mx 3 rfl)) (nea_cons (idu _ (mx 4 rfl)) (nea_cons (idu _ (mx 5 rfl)) (nea_cons (idu _ (mx 6 rfl)) (nea_cons (idu _ (mx 7 rfl)) (nea_cons (idu _ (mx 8 rfl)) (nea_cons (idu _ (mx 9 rfl)) (nea_cons (idu _ (mx 10 rfl)) (nea_cons (idu _ (mx 11 rfl)) (nea_cons (idu _ (mx 12 rfl)) (nea_cons (idu _ (mx 13 rfl)) (nea_cons (idu _ (mx 14 rfl)) (nea_cons (idu _ (mx 15 rfl)) (nea_cons (idu _ (mx 16 rfl)) (nea_cons (Ne.symm (hn _ (mx 10 rfl))) (nea_cons (idu _ (mx 18 rfl)) (nea_cons (idu _ (mx 19 rfl)) (nea_cons (Ne.symm (hn2 _ (mx 10 rfl))) (nea_cons (idu _ (mx 21 rfl)) (nea_cons (idu _ (mx 22 rfl)) (nea_cons (idu _ (mx 23 rfl)) (nea_cons (idu _ (mx 24 rfl)) (nea_cons (idu _ (mx 25 rfl)) (nea_cons (Ne.symm (hr _ (mx 10 rfl))) (nea_nil))))))))))))))))))))))))))),
      nea_cons (imk _ (mx 0 rfl)) (nea_cons (imk _ (mx 1 rfl)) (nea_cons (imk _ (mx 2 rfl)) (nea_cons (imk _ (mx 3 rfl)) (nea_cons (imk _ (mx 4 rfl)) (nea_cons (imk _ (mx 5 rfl)) (nea_cons (imk _ (mx 6 rfl)) (nea_cons (imk _ (mx 7 rfl)) (nea_cons (imk _ (mx 8 rfl)) (nea_cons (imk _ (mx 9 rfl)) (nea_cons (imk _ (mx 10 rfl)) (nea_cons (imk _ (mx 11 rfl)) (nea_cons (imk _ (mx 12 rfl)) (nea_cons (imk _ (mx 13 rfl)) (nea_cons (imk _ (mx 14 rfl)) (nea_cons (imk _ (mx 15 rfl)) (nea_cons (imk _ (mx 16 rfl)) (nea_cons (Ne.symm (hn _ (mx 12 rfl))) (nea_cons (imk _ (mx 18 rfl)) (nea_cons (imk _ (mx 19 rfl)) (nea_cons (Ne.symm (hn2 _ (mx 12 rfl))) (nea_cons (imk _ (mx 21 rfl)) (nea_cons (imk _ (mx 22 rfl)) (nea_cons (imk _ (mx 23 rfl)) (nea_cons (imk _ (mx 24 rfl)) (nea_cons (imk _ (mx 25 rfl)) (nea_cons (Ne.symm (hr _ (mx 12 rfl))) (nea_nil))))))))))))))))))))))))))),
      nea_cons (i4 _ (mx 0 rfl)) (nea_cons (i4 _ (mx 1 rfl)) (nea_cons (i4 _ (mx 2 rfl)) (nea_cons (i4 _ (mx 3 rfl)) (nea_cons (i4 _ (mx 4 rfl)) (nea_cons (i4 _ (mx 5 rfl)) (nea_cons (i4 _ (mx 6 rfl)) (nea_cons (i4 _ (mx 7 rfl)) (nea_cons (i4 _ (mx 8 rfl)) (nea_cons (i4 _ (mx 9 rfl)) (nea_cons (i4 _ (mx 10 rfl)) (nea_cons (i4 _ (mx 11 rfl)) (nea_cons (i4 _ (mx 12 rfl)) (nea_cons (i4 _ (mx 13 rfl)) (nea_cons (i4 _ (mx 14 rfl)) (nea_cons (i4 _ (mx 15 rfl)) (nea_cons (i4 _ (mx 16 rfl)) (nea_cons (Ne.symm (hn _ (mx 18 rfl))) (nea_cons (i4 _ (mx 18 rfl)) (nea_cons (i4 _ (mx 19 rfl)) (nea_cons (Ne.symm (hn2 _ (mx 18 rfl))) (nea_cons (i4 _ (mx 21 rfl)) (nea_cons (i4 _ (mx 22 rfl)) (nea_cons (i4 _ (mx 23 rfl)) (nea_cons (i4 _ (mx 24 rfl)) (nea_cons (i4 _ (mx 25 rfl)) (nea_cons (Ne.symm (hr _ (mx 18 rfl))) (nea_nil))))))))))))))))))))))))))),
      nea_cons (i5 _ (mx 0 rfl)) (nea_cons (i5 _ (mx 1 rfl)) (nea_cons (i5 _ (mx 2 rfl)) (nea_cons (i5 _ (mx 3 rfl)) (nea_cons (i5 _ (mx 4 rfl)) (nea_cons (i5 _ (mx 5 rfl)) (nea_cons (i5 _ (mx 6 rfl)) (nea_cons (i5 _ (mx 7 rfl)) (nea_cons (i5 _ (mx 8 rfl)) (nea_cons (i5 _ (mx 9 rfl)) (nea_cons (i5 _ (mx 10 rfl)) (nea_cons (i5 _ (mx 11 rfl)) (nea_cons (i5 _ (mx 12 rfl)) (nea_cons (i5 _ (mx 13 rfl)) (nea_cons (i5 _ (mx 14 rfl)) (nea_cons (i5 _ (mx 15 rfl)) (nea_cons (i5 _ (mx 16 rfl)) (nea_cons (Ne.symm (hn _ (mx 19 rfl))) (nea_cons (i5 _ (mx 18 rfl)) (nea_cons (i5 _ (mx 19 rfl)) (nea_cons (Ne.symm (hn2 _ (mx 19 rfl))) (nea_cons (i5 _ (mx 21 rfl)) (nea_cons (i5 _ (mx 22 rfl)) (nea_cons (i5 _ (mx 23 rfl)) (nea_cons (i5 _ (mx 24 rfl)) (nea_cons (i5 _ (mx 25 rfl)) (nea_cons (Ne.symm (hr _ (mx 19 rfl))) (nea_nil))))))))))))))))))))))))))),
      nea_cons (i6 _ (mx 0 rfl)) (nea_cons (i6 _ (mx 1 rfl)) (nea_cons (i6 _ (mx 2 rfl)) (nea_cons (i6 _ (mx 3 rfl)) (nea_cons (i6 _ (mx 4 rfl)) (nea_cons (i6 _ (mx 5 rfl)) (nea_cons (i6 _ (mx 6 rfl)) (nea_cons (i6 _ (mx 7 rfl)) (nea_cons (i6 _ (mx 8 rfl)) (nea_cons (i6 _ (mx 9 rfl)) (nea_cons (i6 _ (mx 10 rfl)) (nea_cons (i6 _ (mx 11 rfl)) (nea_cons (i6 _ (mx 12 rfl)) (nea_cons (i6 _ (mx 13 rfl)) (nea_cons (i6 _ (mx 14 rfl)) (nea_cons (i6 _ (mx 15 rfl)) (nea_cons (i6 _ (mx 16 rfl)) (nea_cons (Ne.symm (hn _ (mx 20 rfl))) (nea_cons (i6 _ (mx 18 rfl)) (nea_cons (i6 _ (mx 19 rfl)) (nea_cons (Ne.symm (hn2 _ (mx 20 rfl))) (nea_cons (i6 _ (mx 21 rfl)) (nea_cons (i6 _ (mx 22 rfl)) (nea_cons (i6 _ (mx 23 rfl)) (nea_cons (i6 _ (mx 24 rfl)) (nea_cons (i6 _ (mx 25 rfl)) (nea_cons (Ne.symm (hr _ (mx 20 rfl))) (nea_nil))))))))))))))))))))))))))),
      nea_cons (iq0 _ (mx 0 rfl)) (nea_cons (iq0 _ (mx 1 rfl)) (nea_cons (iq0 _ (mx 2 rfl)) (nea_cons (iq0 _ (mx 3 rfl)) (nea_cons (iq0 _ (mx 4 rfl)) (nea_cons (iq0 _ (mx 5 rfl)) (nea_cons (iq0 _ (mx 6 rfl)) (nea_cons (iq0 _ (mx 7 rfl)) (nea_cons (iq0 _ (mx 8 rfl)) (nea_cons (iq0 _ (mx 9 rfl)) (nea_cons (iq0 _ (mx 10 rfl)) (nea_cons (iq0 _ (mx 11 rfl)) (nea_cons (iq0 _ (mx 12 rfl)) (nea_cons (iq0 _ (mx 13 rfl)) (nea_cons (iq0 _ (mx 14 rfl)) (nea_cons (iq0 _ (mx 15 rfl)) (nea_cons (iq0 _ (mx 16 rfl)) (nea_cons (iq0 _ (mx 17 rfl)) (nea_cons (Ne.symm (hn _ (mx 26 rfl))) (nea_cons (iq0 _ (mx 19 rfl)) (nea_cons (iq0 _ (mx 20 rfl)) (nea_cons (Ne.symm (hn2 _ (mx 26 rfl))) (nea_cons (iq0 _ (mx 22 rfl)) (nea_cons (iq0 _ (mx 23 rfl)) (nea_cons (iq0 _ (mx 24 rfl)) (nea_cons (iq0 _ (mx 25 rfl)) (nea_cons (Ne.symm (hr _ (mx 26 rfl))) (nea_nil))))))))))))))))))))))))))),
      nea_cons (iq1 _ (mx 0 rfl)) (nea_cons (iq1 _ (mx 1 rfl)) (nea_cons (iq1 _ (mx 2 rfl)) (nea_cons (iq1 _ (mx 3 rfl)) (nea_cons (iq1 _ (mx 4 rfl)) (nea_cons (iq1 _ (mx 5 rfl)) (nea_cons (iq1 _ (mx 6 rfl)) (nea_cons (iq1 _ (mx 7 rfl)) (nea_cons (iq1 _ (mx 8 rfl)) (nea_cons (iq1 _ (mx 9 rfl)) (nea_cons (iq1 _ (mx 10 rfl)) (nea_cons (iq1 _ (mx 11 rfl)) (nea_cons (iq1 _ (mx 12 rfl)) (nea_cons (iq1 _ (mx 13 rfl)) (nea_cons (iq1 _ (mx 14 rfl)) (nea_cons (iq1 _ (mx 15 rfl)) (nea_cons (iq1 _ (mx 16 rfl)) (nea_cons (iq1 _ (mx 17 rfl)) (nea_cons (Ne.symm (hn _ (mx 27 rfl))) (nea_cons (iq1 _ (mx 19 rfl)) (nea_cons (iq1 _ (mx 20 rfl)) (nea_cons (Ne.symm (hn2 _ (mx 27 rfl))) (nea_cons (iq1 _ (mx 22 rfl)) (nea_cons (iq1 _ (mx 23 rfl)) (nea_cons (iq1 _ (mx 24 rfl)) (nea_cons (iq1 _ (mx 25 rfl)) (nea_cons (Ne.symm (hr _ (mx 27 rfl))) (nea_nil))))))))))))))))))))))))))),
      nea_cons (iq2 _ (mx 0 rfl)) (nea_cons (iq2 _ (mx 1 rfl)) (nea_cons (iq2 _ (mx 2 rfl)) (nea_cons (iq2 _ (mx 3 rfl)) (nea_cons (iq2 _ (mx 4 rfl)) (nea_cons (iq2 _ (mx 5 rfl)) (nea_cons (iq2 _ (mx 6 rfl)) (nea_cons (iq2 _ (mx 7 rfl)) (nea_cons (iq2 _ (mx 8 rfl)) (nea_cons (iq2 _ (mx 9 rfl)) (nea_cons (iq2 _ (mx 10 rfl)) (nea_cons (iq2 _ (mx 11 rfl)) (nea_cons (iq2 _ (mx 12 rfl)) (nea_cons (iq2 _ (mx 13 rfl)) (nea_cons (iq2 _ (mx 14 rfl)) (nea_cons (iq2 _ (mx 15 rfl)) (nea_cons (iq2 _ (mx 16 rfl)) (nea_cons (iq2 _ (mx 17 rfl)) (nea_cons (Ne.symm (hn _ (mx 8 rfl))) (nea_cons (iq2 _ (mx 19 rfl)) (nea_cons (iq2 _ (mx 20 rfl)) (nea_cons (Ne.symm (hn2 _ (mx 8 rfl))) (nea_cons (iq2 _ (mx 22 rfl)) (nea_cons (iq2 _ (mx 23 rfl)) (nea_cons (iq2 _ (mx 24 rfl)) (nea_cons (iq2 _ (mx 25 rfl)) (nea_cons (Ne.symm (hr _ (mx 8 rfl))) (nea_nil))))))))))))))))))))))))))),
      kcu, kdu, kmk, k4, k5, k6, kq0, kq1, kq2⟩
      (nea_cons (jt _ (mx 0 rfl)) (nea_cons (jt _ (mx 1 rfl)) (nea_cons (jt _ (mx 2 rfl)) (nea_cons (jt _ (mx 3 rfl)) (nea_cons (jt _ (mx 4 rfl)) (nea_cons (jt _ (mx 5 rfl)) (nea_cons (jt _ (mx 6 rfl)) (nea_cons (jt _ (mx 7 rfl)) (nea_cons (jt _ (mx 8 rfl)) (nea_cons (jt _ (mx 9 rfl)) (nea_cons (jt _ (mx 10 rfl)) (nea_cons (jt _ (mx 11 rfl)) (nea_cons (jt _ (mx 12 rfl)) (nea_cons (jt _ (mx 13 rfl)) (nea_cons (jt _ (mx 14 rfl)) (nea_cons (jt _ (mx 15 rfl)) (nea_cons (jt _ (mx 16 rfl)) (nea_cons (jt _ (mx 17 rfl)) (nea_cons (Ne.symm (hn _ (mx 21 rfl))) (nea_cons (jt _ (mx 19 rfl)) (nea_cons (jt _ (mx 20 rfl)) (nea_cons (Ne.symm (hn2 _ (mx 21 rfl))) (nea_cons (jt _ (mx 22 rfl)) (nea_cons (jt _ (mx 23 rfl)) (nea_cons (jt _ (mx 24 rfl)) (nea_cons (jt _ (mx 25 rfl)) (nea_cons (jt _ (mx 26 rfl)) (nea_cons (Ne.symm (hr _ (mx 21 rfl))) (nea_nil)))))))))))))))))))))))))))))
theorem body_out (hfd : fdAt w 417 = some fd) (Tn : Turned w (ktrTop dp un gd cn cs L₁ a ccd cl []) base [envX cn cs L₁ a ccd cl] mean mg mb g c.L h₀ s.heap m (it :: c.led w p o4 o5 o6)) (XB : (KF w.params).In base) (TB : Top qv LS mean mg mb base)
  (hk : cs.kind = .function) (hdp : dp + 9 < recursionLimit) (hu : un + 200 < cLine) (C : CfgOk w c) (S : St c p m) (jt : NeA it.1 (c.adr p))
  (h4 : o4.data = .cell (some (.int i ti))) (h5 : o5.data = .cell (some (.ref sa))) (h6 : o6.data = .cell (some (.bool bt))) (hsa : (sa, ip sx sy tsx tsy) ∈ c.keep) (hi : i = -1 ∨ i = 3)
  (ret : ∀ (g' : Heap) (p' : Pts) (m' : Str → Option Value) (h' : Heap) (tk' : Nat), Turned w (ktrTop dp un gd cn cs L₁ a ccd cl []) base [envX cn cs L₁ a ccd cl] mean mg mb g c.L g' h' m' (it :: c.led w p' o4 o5 o6) → St c p' m' → NeA it.1 (c.adr p') → Q .next { s with heap := h', toks := tk' }) :
  wpAny (model PG w) ((ktrTop dp un gd cn cs L₁ a ccd cl []).deeper (envOfC fd.qualname fd.scope c.L 417 fd.code)) (execs (loopBody fd) (envOfC fd.qualname fd.scope c.L 417 fd.code)) Q (fun _ _ => False) s := by
  obtain ⟨L, so, sd, fr, zx, zd, og, cu, to, en, oc, du, mk, fl, po, p0, p1, p2, q0, q1, q2, fx, fy, P0x, P0y, P1x, P1y, P2x, P2y, tfx, tfy, k1, k2, k3, k4, k5, t6, t7, t8, t9, u6, u7, u8, es, ne, e2, e3, e5, e6, e8, e9, e10, e11, e12, eq0, eq1, eq2, f0, f1, o1, o2, o3, keep⟩ := c
  obtain ⟨c0, c1, c2, d0, d1, d2, r0, r1, r2, x0, y0, x1, y1, x2, y2, tx0, ty0, tx1, ty1, tx2, ty2, ux0, uy0, ux1, uy1, ux2, uy2, a0, b0, a1, b1, a2, b2, er0, er1, er2⟩ := p
  obtain ⟨mst, mz, mo, icu, idu, imk, i4, i5, i6, iq0, iq1, iq2, kcu, kdu, kmk, k4, k5, k6, kq0, kq1, kq2⟩ := S
  obtain ⟨cf0, cf1, hfr, h1, h2, h3, m3, m6, m7, m8, P0, P1, P2⟩ := C
  obtain ⟨Tt, F, N, B, X, T, D⟩ := Tn
  dsimp only [Cfg.led, Cfg.adr] at *
  have hsa1 : sa ∈ keep.map (·.1) := List.mem_map.mpr ⟨_, hsa, rfl⟩
  have N1 := news_add N (inLed _ hsa)
  have N2 := cb_drop N1 toOut
  refine out_c (cvs := [.ref c0, .ref c1, .ref c2]) (dvs := [.ref d0, .ref d1, .ref d2]) (tvs := [.ref q0, .ref q1, .ref q2]) (mvs := [.ref r0, .ref r1, .ref r2]) hfd B F X XB TB D N2 T hk hdp hu h1 h2 h4 h5 h6 ⟨rfl, rfl, ?W⟩ ⟨rfl, rfl, ?V⟩ (inOut _ m3) (inOut _ m6) (inOut _ m7) (inOut _ m8) (inOut _ P0) (inOut _ P1) (inOut _ P2) mst mz mo ?hany hi rfl ?ret
  case W =>
    intro j hj
    have hj3 : j = 0 ∨ j = 1 ∨ j = 2 := by omega
    rcases hj3 with rfl | rfl | rfl
    · exact ⟨c0, d0, x0, y0, tx0, ty0, ux0, uy0, rfl, rfl, mx 5 rfl, mx 8 rfl⟩
    · exact ⟨c1, d1, x1, y1, tx1, ty1, ux1, uy1, rfl, rfl, mx 6 rfl, mx 9 rfl⟩
    · exact ⟨c2, d2, x2, y2, tx2, ty2, ux2, uy2, rfl, rfl, mx 7 rfl, mx 10 rfl⟩
  case V =>
    intro j hj
    have hj3 : j = 0 ∨ j = 1 ∨ j = 2 := by omega
    rcases hj3 with rfl | rfl | rfl
    · exact ⟨q0, r0, a0, b0, eq0, er0, rfl, rfl, mx 11 rfl, mx 14 rfl⟩
    · exact ⟨q1, r1, a1, b1, eq1, er1, rfl, rfl, mx 12 rfl, mx 15 rfl⟩
    · exact ⟨q2, r2, a2, b2, eq2, er2, rfl, rfl, mx 13 rfl, mx 16 rfl⟩
  case hany => rcases hi with rfl | rfl <;> rfl
  case ret =>
    intro g' m' h' tk' T' F' hs' hz' ho' N' B' X' P' D'
    have N3 := cb_drop N' fromOut
    exact ret g' ⟨c0, c1, c2, d0, d1, d2, r0, r1, r2, x0, y0, x1, y1, x2, y2, tx0, ty0, tx1, ty1, tx2, ty2, ux0, uy0, ux1, uy1, ux2, uy2, a0, b0, a1, b1, a2, b2, er0, er1, er2⟩ m' h' tk' ⟨Tt.trans T', F', N3, B', X', P', D'⟩ ⟨hs', hz', ho', icu, idu, imk, i4, i5, i6, iq0, iq1, iq2, kcu, kdu, kmk, k4, k5, k6, kq0, kq1, kq2⟩ jt
end
-- 20c_loop
section
variable {w : World} {mean : ExcName → Option Value} {mg mb : Str → Option Value} {dp un : Nat} {gd : Option (List Code)} {cn : Str} {cs : Scope} {a : Addr} {ccd : Value} {cl : List (Str × Addr)} {base g h₀ : Heap} {L L₁ : Addr} {m : Str → Option Value} {fd : FuncData} {rest : List (Addr × Obj)} {o4 o5 o6 : Obj} {v4 v5 v6 : Option Value} {it : Addr × Obj}
variable {c : Cfg} {p : Pts} {dl : Addr} {ed : Nat} {ds : List Deed} {Q : Flow → Shared → Prop} {E : Value → Shared → Prop}
theorem led_adr : (c.led w p o4 o5 o6).map (·.1) = c.adr p ++ c.keep.map (·.1) := rfl
theorem led_off {x : Addr} (h : NeA x (c.adr p)) (k : NeA x (c.keep.map (·.1))) : ∀ q ∈ c.led w p o4 o5 o6, q.1 ≠ x := fun q hq => by
  have h1 : q.1 ∈ (c.led w p o4 o5 o6).map (·.1) := List.mem_map.mpr ⟨q, hq, rfl⟩
  rw [led_adr] at h1
  rcases List.mem_append.mp h1 with h1 | h1
  · exact h _ h1
  · exact k _ h1
theorem off_adr {x : Addr} (h : ∀ q ∈ c.led w p o4 o5 o6, q.1 ≠ x) : NeA x (c.adr p) ∧ NeA x (c.keep.map (·.1)) := by
  have h1 : ∀ b ∈ (c.led w p o4 o5 o6).map (·.1), b ≠ x := fun b hb => by
    obtain ⟨q, hq, rfl⟩ := List.mem_map.mp hb
    exact h q hq
  rw [led_adr] at h1
  exact ⟨fun b hb => h1 b (List.mem_append_left _ hb), fun b hb => h1 b (List.mem_append_right _ hb)⟩
theorem loop_c {target : PySem.Expr} (hfd : fdAt w 417 = some fd) (ht : loopTarget fd = some target) (Tn : Turned w (ktrTop dp un gd cn cs L₁ a ccd cl []) base [envX cn cs L₁ a ccd cl] mean mg mb g c.L g s.heap m (c.led w p o4 o5 o6)) (XB : (KF w.params).In base) (TB : Top qv LS mean mg mb base)
  (hk : cs.kind = .function) (hdp : dp + 9 < recursionLimit) (hu : un + 200 < cLine) (C : CfgOk w c) (S : St c p m) (h4 : o4.data = .cell v4) (h5 : o5.data = .cell v5) (h6 : o6.data = .cell v6)
  (hdl : (dl, listOf (ds.map Deed.val).toArray ed) ∈ c.keep) (hds : ∀ d ∈ ds, ∀ q ∈ d.led, q ∈ c.keep) (hi : ∀ d ∈ ds, d.i = 0 ∨ d.i = 1 ∨ d.i = 2 ∨ d.i = -1 ∨ d.i = 3)
  (fin : ∀ (g' : Heap) (m' : Str → Option Value) (h' : Heap) (tk' : Nat) (p' : Pts) (o4' o5' o6' : Obj), Turned w (ktrTop dp un gd cn cs L₁ a ccd cl []) base [envX cn cs L₁ a ccd cl] mean mg mb g c.L g' h' m' (c.led w p' o4' o5' o6') → Q .next { s with heap := h', toks := tk' }) :
  OwnLoop w ((ktrTop dp un gd cn cs L₁ a ccd cl []).deeper (envOfC fd.qualname fd.scope c.L 417 fd.code)) (ktrTop dp un gd cn cs L₁ a ccd cl []) base [envX cn cs L₁ a ccd cl] mean mg mb (envOfC fd.qualname fd.scope c.L 417 fd.code) target (loopBody fd) Q E (.ref dl) s := by
  have hdlL : (dl, listOf (ds.map Deed.val).toArray ed) ∈ c.led w p o4 o5 o6 := .tail _ (.tail _ (.tail _ (.tail _ (.tail _ (.tail _ (.tail _ (.tail _ (.tail _ (.tail _ (.tail _ (.tail _ (.tail _ (.tail _ (.tail _ (.tail _ (.tail _ (.tail _ (.tail _ (.tail _ (.tail _ (.tail _ (.tail _ (.tail _ (.tail _ (.tail _ (.tail _ (.tail _ hdl)))))))))))))))))))))))))))
  refine ⟨dl, ds.map Deed.val, g, g, m, c.led w p o4 o5 o6, fun _ m news => ∃ p o4 o5 o6 v4 v5 v6, news = c.led w p o4 o5 o6 ∧ St c p m ∧ o4.data = .cell v4 ∧ o5.data = .cell v5 ∧ o6.data = .cell v6, rfl, rfl, News.isList Tn.ne hdlL, (Tn.ne _ hdlL).2.1, Tn, ⟨p, o4, o5, o6, v4, v5, v6, rfl, S, h4, h5, h6⟩, ?step, ?fin⟩
  case fin =>
    intro h' tk g' m' news' T' hJ
    obtain ⟨p', o4', o5', o6', _, _, _, rfl, _, _, _, _⟩ := hJ
    exact fin g' m' h' tk p' o4' o5' o6' T'
  case step =>
    intro i v g₁ m₁ news₁ h₁ tk₁ itr hv hJ hcls hoff hlt hls T₁
    obtain ⟨p, o4, o5, o6, v4, v5, v6, rfl, S, h4, h5, h6⟩ := hJ
    obtain ⟨d, hd, rfl⟩ := List.mem_map.mp (List.mem_of_getElem? hv)
    obtain ⟨jt, kt⟩ := off_adr hoff
    have hdam := hds d hd _ (.head _)
    have hsam := hds d hd _ (.tail _ (.head _))
    have hda : d.a ∈ c.keep.map (·.1) := List.mem_map.mpr ⟨_, hdam, rfl⟩
    refine assign_c (L := c.L) hfd ht T₁.below T₁.fr T₁.inn T₁.top (cb_drop (news_add T₁.ne (inLed _ hdam)) toAssign) h4 h5 h6
      (nea_cons (S.k4 _ hda) (nea_cons (Ne.symm (jt _ (mx 13 rfl))) (nea_cons (S.i4 _ (mx 0 rfl)) (nea_cons (S.i4 _ (mx 1 rfl)) (nea_cons (S.i4 _ (mx 2 rfl)) (nea_cons (S.i4 _ (mx 3 rfl)) (nea_cons (S.i4 _ (mx 4 rfl)) (nea_cons (S.i4 _ (mx 5 rfl)) (nea_cons (S.i4 _ (mx 6 rfl)) (nea_cons (S.i4 _ (mx 7 rfl)) (nea_cons (S.i4 _ (mx 8 rfl)) (nea_cons (S.i4 _ (mx 9 rfl)) (nea_cons (S.i4 _ (mx 10 rfl)) (nea_cons (S.i4 _ (mx 11 rfl)) (nea_cons (S.i4 _ (mx 12 rfl)) (nea_cons (S.i4 _ (mx 15 rfl)) (nea_cons (S.i4 _ (mx 16 rfl)) (nea_cons (S.i4 _ (mx 17 rfl)) (nea_cons (S.i4 _ (mx 18 rfl)) (nea_cons (S.i4 _ (mx 19 rfl)) (nea_cons (S.i4 _ (mx 20 rfl)) (nea_cons (S.i4 _ (mx 21 rfl)) (nea_cons (S.i4 _ (mx 22 rfl)) (nea_cons (S.i4 _ (mx 23 rfl)) (nea_cons (S.i4 _ (mx 24 rfl)) (nea_cons (S.i4 _ (mx 25 rfl)) (nea_cons (S.i4 _ (mx 26 rfl)) (S.k4))))))))))))))))))))))))))))
      (nea_cons (S.k5 _ hda) (nea_cons (Ne.symm (jt _ (mx 14 rfl))) (nea_cons (S.i5 _ (mx 0 rfl)) (nea_cons (S.i5 _ (mx 1 rfl)) (nea_cons (S.i5 _ (mx 2 rfl)) (nea_cons (S.i5 _ (mx 3 rfl)) (nea_cons (S.i5 _ (mx 4 rfl)) (nea_cons (S.i5 _ (mx 5 rfl)) (nea_cons (S.i5 _ (mx 6 rfl)) (nea_cons (S.i5 _ (mx 7 rfl)) (nea_cons (S.i5 _ (mx 8 rfl)) (nea_cons (S.i5 _ (mx 9 rfl)) (nea_cons (S.i5 _ (mx 10 rfl)) (nea_cons (S.i5 _ (mx 11 rfl)) (nea_cons (S.i5 _ (mx 12 rfl)) (nea_cons (S.i5 _ (mx 15 rfl)) (nea_cons (S.i5 _ (mx 16 rfl)) (nea_cons (S.i5 _ (mx 17 rfl)) (nea_cons (S.i5 _ (mx 18 rfl)) (nea_cons (S.i5 _ (mx 19 rfl)) (nea_cons (S.i5 _ (mx 20 rfl)) (nea_cons (S.i5 _ (mx 21 rfl)) (nea_cons (S.i5 _ (mx 22 rfl)) (nea_cons (S.i5 _ (mx 23 rfl)) (nea_cons (S.i5 _ (mx 24 rfl)) (nea_cons (S.i5 _ (mx 25 rfl)) (nea_cons (S.i5 _ (mx 26 rfl)) (S.k5))))))))))))))))))))))))))))
      (nea_cons (S.k6 _ hda) (nea_cons (Ne.symm (jt _ (mx 15 rfl))) (nea_cons (S.i6 _ (mx 0 rfl)) (nea_cons (S.i6 _ (mx 1 rfl)) (nea_cons (S.i6 _ (mx 2 rfl)) (nea_cons (S.i6 _ (mx 3 rfl)) (nea_cons (S.i6 _ (mx 4 rfl)) (nea_cons (S.i6 _ (mx 5 rfl)) (nea_cons (S.i6 _ (mx 6 rfl)) (nea_cons (S.i6 _ (mx 7 rfl)) (nea_cons (S.i6 _ (mx 8 rfl)) (nea_cons (S.i6 _ (mx 9 rfl)) (nea_cons (S.i6 _ (mx 10 rfl)) (nea_cons (S.i6 _ (mx 11 rfl)) (nea_cons (S.i6 _ (mx 12 rfl)) (nea_cons (S.i6 _ (mx 15 rfl)) (nea_cons (S.i6 _ (mx 16 rfl)) (nea_cons (S.i6 _ (mx 17 rfl)) (nea_cons (S.i6 _ (mx 18 rfl)) (nea_cons (S.i6 _ (mx 19 rfl)) (nea_cons (S.i6 _ (mx 20 rfl)) (nea_cons (S.i6 _ (mx 21 rfl)) (nea_cons (S.i6 _ (mx 22 rfl)) (nea_cons (S.i6 _ (mx 23 rfl)) (nea_cons (S.i6 _ (mx 24 rfl)) (nea_cons (S.i6 _ (mx 25 rfl)) (nea_cons (S.i6 _ (mx 26 rfl)) (S.k6)))))))))))))))))))))))))))) ?ret
    intro o4' o5' o6' h' tk' F' N' h4' h5' h6'
    have N2 := cb_drop N' fromAssign
    have T₂ : Turned w (ktrTop dp un gd cn cs L₁ a ccd cl []) base [envX cn cs L₁ a ccd cl] mean mg mb g c.L g₁ h' m₁ (itr :: c.led w p o4' o5' o6') := ⟨T₁.turn, F', N2, T₁.below, T₁.inn, T₁.top, T₁.dicts⟩
    have post : ∀ (g' : Heap) (p' : Pts) (m' : Str → Option Value) (h'' : Heap) (tk'' : Nat), Turned w (ktrTop dp un gd cn cs L₁ a ccd cl []) base [envX cn cs L₁ a ccd cl] mean mg mb g c.L g' h'' m' (itr :: c.led w p' o4' o5' o6') → St c p' m' → NeA itr.1 (c.adr p') →
        NextTurn w (ktrTop dp un gd cn cs L₁ a ccd cl []) base [envX cn cs L₁ a ccd cl] mean mg mb g c.L dl (ds.map Deed.val) itr (fun m news => ∃ p o4 o5 o6 v4 v5 v6, news = c.led w p o4 o5 o6 ∧ St c p m ∧ o4.data = .cell v4 ∧ o5.data = .cell v5 ∧ o6.data = .cell v6) Q { s with heap := h₁, toks := tk₁ } .next { s with heap := h'', toks := tk'' } := by
      intro g' p' m' h'' tk'' T' S' jt'
      exact ⟨h'', tk'', g', m', c.led w p' o4' o5' o6', rfl, T', led_off jt' kt, News.isList T'.ne (inLed _ hdl), p', o4', o5', o6', _, _, _, rfl, S', h4', h5', h6'⟩
    rcases hi d hd with h | h | h | h
    · exact wpAny_mono (body_0 (p := p) (s := { s with heap := h', toks := tk' }) hfd T₂ XB TB hk hdp hu C S jt h4' h5' h6' hsam h fun g' p' m' h'' tk'' => post g' p' m' h'' tk'') (fun _ _ x => x) fun _ _ x => x.elim
    · exact wpAny_mono (body_1 (p := p) (s := { s with heap := h', toks := tk' }) hfd T₂ XB TB hk hdp hu C S jt h4' h5' h6' hsam h fun g' p' m' h'' tk'' => post g' p' m' h'' tk'') (fun _ _ x => x) fun _ _ x => x.elim
    · exact wpAny_mono (body_2 (p := p) (s := { s with heap := h', toks := tk' }) hfd T₂ XB TB hk hdp hu C S jt h4' h5' h6' hsam h fun g' p' m' h'' tk'' => post g' p' m' h'' tk'') (fun _ _ x => x) fun _ _ x => x.elim
    · exact wpAny_mono (body_out (p := p) (s := { s with heap := h', toks := tk' }) hfd T₂ XB TB hk hdp hu C S jt h4' h5' h6' hsam h fun g' p' m' h'' tk'' => post g' p' m' h'' tk'') (fun _ _ x => x) fun _ _ x => x.elim
end
-- 21_unit
section
variable {w : World} {mean : ExcName → Option Value} {mg mb : Str → Option Value} {dp un : Nat} {gd : Option (List Code)} {cn : Str} {cs : Scope} {a : Addr} {ccd : Value} {cl : List (Str × Addr)} {outer : List Env} {A₀ : Around} {base h₀ : Heap} {L : Addr} {m : Str → Option Value} {Q E : Value → Shared → Prop} {news rest : List (Addr × Obj)} {g : Obj → List (Addr × Obj)}
variable {x sq y : Int} {tx tq ty : Tok}
local macro_rules | `(tactic| k_room) => `(tactic| ktr_room)
theorem upart_c (B : Below A₀ base outer h₀) (F : Fr h₀ L s.heap m) (X : (KF w.params).In h₀) (N : News h₀ L s.heap news) (T : Top qv LS mean mg mb h₀) (hk : cs.kind = .function) (hdp : dp + 2 < recursionLimit) (hu : un + 16 < cLine)
  (hx : (x = 1 ∧ sq = 2) ∨ (x = 3 ∧ sq = 25) ∨ (x = -4 ∧ sq = 25) ∨ (x = -32768 ∧ sq = 1073741825) ∨ (x = 1 ∧ sq = 1073741825))
  (ret : ∀ (r : Int) (t : Tok) (h' : Heap) (tk' : Nat), Fr h₀ L h' m → News h₀ L h' news → Q (.int r t) { s with heap := h', toks := tk' }) :
  wpAny (model PG w) (ktrTop dp un gd cn cs L a ccd cl outer) (call (.ref 95) [.int x tx, .int sq tq]) Q E s := by
  rcases hx with ⟨rfl, rfl⟩ | ⟨rfl, rfl⟩ | ⟨rfl, rfl⟩ | ⟨rfl, rfl⟩ | ⟨rfl, rfl⟩
  all_goals refine wpAny_call ?_
  all_goals k_dflt ktr_enter
  all_goals (refine let_A ?_; intro A9)
  all_goals k_steps
  all_goals exact ret _ _ _ _ (by assumption) (by assumption)
local macro_rules | `(tactic| walk_at "call ref") => `(tactic| (k_here; (with_reducible show wpAny _ _ (call (Value.ref 95) _) _ _ _); k_dflt (refine' upart_c ?k1 ?k2 ?k3 ?k4 ?k5 ?kK ?kd ?ku ?kx ?_; walk_at "K8"; (case kx => decide); k_whole); intro r9 t9 h9 tk9 F9 N9; (try dsimp only); (try k_sweep)))
theorem unit_c (B : Below A₀ base outer h₀) (F : Fr h₀ L s.heap m) (X : (KF w.params).In h₀) (N : News h₀ L s.heap news) (T : Top qv LS mean mg mb h₀) (hk : cs.kind = .function) (hdp : dp + 3 < recursionLimit) (hu : un + 24 < cLine)
  (hx : (x = 1 ∧ y = 1) ∨ (x = 3 ∧ y = -4) ∨ (x = -32768 ∧ y = 1) ∨ (x = 1 ∧ y = -32768))
  (ret : ∀ (fr : Addr) (r1 r2 : Int) (t1 t2 : Tok) (h' : Heap) (tk' : Nat), Fr h₀ L h' m → News h₀ L h' ((fr, tup [.int r1 t1, .int r2 t2]) :: news) → (∀ p ∈ news, p.1 < fr) → Q (.ref fr) { s with heap := h', toks := tk' }) :
  wpAny (model PG w) (ktrTop dp un gd cn cs L a ccd cl outer) (call (.ref 102) [.int x tx, .int y ty]) Q E s := by
  rcases hx with ⟨rfl, rfl⟩ | ⟨rfl, rfl⟩ | ⟨rfl, rfl⟩ | ⟨rfl, rfl⟩
  all_goals refine wpAny_call ?_
  all_goals k_dflt ktr_enter
  all_goals (refine let_A ?_; intro A9)
  all_goals k_steps
  all_goals exact ret _ _ _ _ _ _ _ (by assumption) (by assumption) (by assumption)
end
theorem unit_in {p q : Int} (hpq : (p = 1 ∧ q = 1) ∨ (p = 3 ∧ q = -4) ∨ (p = -32768 ∧ q = 1) ∨ (p = 1 ∧ q = -32768)) :
    ((w32 p + 32768).fmod 65536 - 32768 = 1 ∧ (w32 q + 32768).fmod 65536 - 32768 = 1) ∨ ((w32 p + 32768).fmod 65536 - 32768 = 3 ∧ (w32 q + 32768).fmod 65536 - 32768 = -4) ∨ ((w32 p + 32768).fmod 65536 - 32768 = -32768 ∧ (w32 q + 32768).fmod 65536 - 32768 = 1) ∨ ((w32 p + 32768).fmod 65536 - 32768 = 1 ∧ (w32 q + 32768).fmod 65536 - 32768 = -32768) := by
  rcases hpq with ⟨rfl, rfl⟩ | ⟨rfl, rfl⟩ | ⟨rfl, rfl⟩ | ⟨rfl, rfl⟩
  · exact .inl (by decide)
  · exact .inr (.inl (by decide))
  · exact .inr (.inr (.inl (by decide)))
  · exact .inr (.inr (.inr (by decide)))
local macro_rules | `(tactic| walk_at "call ref") => `(tactic| (k_here; (with_reducible show wpAny _ _ (call (Value.ref 102) _) _ _ _); k_dflt (refine' unit_c ?k1 ?k2 ?k3 ?k4 ?k5 ?kK ?kd ?ku ?kx ?_; walk_at "K8"; (case kx => exact unit_in (by assumption)); k_whole); intro fr r1 r2 t1 t2 h9 tk9 F9 N9 l1; (try k_lt l1); (try dsimp only); (try k_sweep)))
-- 22_work
theorem workSub {α : Type} {e1 kd kx nl sd so wd wx z1 z2 : α} {k : List α} : ∀ p ∈ wx :: wd :: so :: sd :: kx :: kd :: nl :: k, p ∈ e1 :: nl :: kx :: kd :: so :: sd :: wx :: wd :: z2 :: z1 :: k :=
  sub_at (mx 6 rfl) (sub_at (mx 7 rfl) (sub_at (mx 4 rfl) (sub_at (mx 5 rfl) (sub_at (mx 2 rfl) (sub_at (mx 3 rfl) (sub_at (mx 1 rfl) (fun _ h => .tail _ (.tail _ (.tail _ (.tail _ (.tail _ (.tail _ (.tail _ (.tail _ (.tail _ (.tail _ (h)))))))))))))))))
theorem gsSub {α : Type} {f1 f2 f3 rd rows rx sd so t1 t2 t3 t4 t5 t6 : α} {k : List α} : ∀ p ∈ so :: sd :: k, p ∈ rx :: rd :: t1 :: t2 :: t3 :: t4 :: t5 :: t6 :: rows :: f3 :: f2 :: f1 :: so :: sd :: k :=
  sub_at (mx 12 rfl) (sub_at (mx 13 rfl) (fun _ h => .tail _ (.tail _ (.tail _ (.tail _ (.tail _ (.tail _ (.tail _ (.tail _ (.tail _ (.tail _ (.tail _ (.tail _ (.tail _ (.tail _ (h))))))))))))))))
theorem is_self {x : Str} {k : Tok} : (Value.str x k).isStr x = true := by simp [Value.isStr]
theorem put_head {w : World} {x : Str} {k t : Tok} {v v' : Value} {es : List DictEntry} {n : Nat} : (putL x (PyData.keyHash w.params x) (.str x t) v' (ent w x k v :: es), putN x (ent w x k v :: es) n) = (ent w x k v' :: es, n) := by
  simp [putL, putN, is_self]
theorem get_head {w : World} {x : Str} {k : Tok} {v : Value} {es : List DictEntry} : getL x (ent w x k v :: es) = some (some v) := by
  simp [getL, is_self]
theorem get_some {w : World} {x : Str} {k : Tok} {v : Value} {es : List DictEntry} : (getL x (ent w x k v :: es)).isSome = true := by rw [get_head]; rfl
theorem len_head {w : World} {x : Str} {k : Tok} {v : Value} {es : List DictEntry} (h : es.length ≤ 100) : (ent w x k v :: es).length ≤ 1000 := by rw [List.length_cons]; omega
theorem lta_ups {d x : Addr} {l : List Addr} (h : LtA d l) (hx : @LT.lt Nat _ d x) : LtA x (d :: l) := fun b hb => (List.mem_cons.mp hb).elim (fun e => e ▸ hx) fun q => Nat.lt_trans (h b q) hx
theorem upd_mid {d : Addr} {o o' : Obj} : ∀ {pre post : List (Addr × Obj)}, (∀ p ∈ pre, p.1 ≠ d) → (∀ p ∈ post, p.1 ≠ d) → Upd d o o' (pre ++ (d, o) :: post) (pre ++ (d, o') :: post)
  | [], _, _, h => .head h
  | p :: _, _, h1, h2 => .tail (h1 p (.head _)) (upd_mid (fun q hq => h1 q (.tail _ hq)) h2)
def Tl (k : Nat) (es : List DictEntry) : Prop := es.length ≤ k ∧ es.any (·.refKey) = false
theorem Tl.nil : Tl 0 [] := ⟨Nat.le_refl _, rfl⟩
theorem Tl.put {k : Nat} {x : Str} {hs : Int} {t : Tok} {v : Value} : ∀ {es : List DictEntry}, Tl k es → Tl (k + 1) (putL x hs (.str x t) v es)
  | [], _ => ⟨Nat.succ_le_succ (Nat.zero_le _), rfl⟩
  | e :: r, h => by
    have h1 : r.length + 1 ≤ k := h.1
    have h2 : (e.refKey || r.any (·.refKey)) = false := h.2
    obtain ⟨h3, h4⟩ := Bool.or_eq_false_iff.mp h2
    have q : putL x hs (.str x t) v (e :: r) = if e.key.isStr x then ⟨e.hash, e.key, v⟩ :: r else e :: putL x hs (.str x t) v r := rfl
    rw [q]
    split
    · exact ⟨Nat.le_trans h1 (Nat.le_succ _), h2⟩
    · obtain ⟨a, b⟩ := Tl.put (x := x) (hs := hs) (t := t) (v := v) (es := r) (k := k - 1) ⟨by omega, h4⟩
      refine ⟨by rw [List.length_cons]; omega, ?_⟩
      rw [List.any_cons, h3, b]; rfl
theorem Tl.up {k : Nat} {es : List DictEntry} (h : Tl k es) (q : Nat.ble k 100 = true := by rfl) : Tl 100 es := ⟨Nat.le_trans h.1 (Nat.le_of_ble_eq_true q), h.2⟩
theorem Tl.le {k : Nat} {es : List DictEntry} (h : Tl k es) (q : Nat.ble k 100 = true) : es.length ≤ 100 := Nat.le_trans h.1 (Nat.le_of_ble_eq_true q)
theorem getL_any {x : Str} {es : List DictEntry} (h : es.any (·.refKey) = false) : (getL x es).isSome = true := by
  unfold getL
  split
  · rfl
  · rw [h]; rfl
section
variable {prog : Program} {w : World} {A : Around} {E : Value → Shared → Prop} {K : Frag} {x C dx L : Addr} {h₀ : Heap} {m : Str → Option Value} {news : List (Addr × Obj)} {g : Obj → List (Addr × Obj)} {ox : Obj} {es : List DictEntry} {n k : Nat} {name : Str} {v : Value} {e0 e1 : DictEntry}
theorem set_tail1 {Q : Unit → Shared → Prop} (F : Fr h₀ L s.heap m) (X₀ : K.In h₀) (N : News h₀ L s.heap news) (I : InstAt s.heap x ox 203 (some (dictOf (e0 :: es) n))) (hd : ox.dict = some dx)
    (hs : findIn K (.ref 203) "__setattr__" = some (some (.builtin "object.__setattr__"))) (hp : plainOver K 203 = true) (ht : takerIn K 203 name = some none) (hh : hasDictIn K 203 = true)
    (h0 : (!e0.key.isStr name && !e0.refKey) = true) (hT : Tl k es) (hk : Nat.ble k 100 = true) (U : UpdF dx (dictOf (e0 :: es) n) news g)
    (h : ∀ es' n' h' tk', Tl (k + 1) es' → Fr h₀ L h' m → News h₀ L h' (g (dictOf (e0 :: es') n')) → Q () { s with heap := h', toks := tk' }) :
    wpAny (model prog w) A (setAttr (.ref x) name v) Q E s := by
  obtain ⟨pre, post, rfl, hg, a, b⟩ := U.split
  obtain ⟨z1, z2⟩ := Bool.and_eq_true_iff.mp h0
  have z1 : e0.key.isStr name = false := by simpa using z1
  have z2 : e0.refKey = false := by simpa using z2
  have T' := hT.put (x := name) (hs := PyData.keyHash w.params name) (t := s.toks + 1) (v := v)
  have q : putL name (PyData.keyHash w.params name) (.str name (s.toks + 1)) v (e0 :: es) = e0 :: putL name (PyData.keyHash w.params name) (.str name (s.toks + 1)) v es := by simp [putL, z1]
  refine set_dict F X₀ N I hd hs hp ht hh (getL_any (by rw [List.any_cons, z2, hT.2]; rfl)) (by rw [q]) (upd_mid a b) ?_ fun h' F' N' => ?_
  · have := T'.1
    have := Nat.le_of_ble_eq_true hk
    rw [List.length_cons]; omega
  · exact h _ _ h' _ T' F' (by rw [hg]; exact N')
theorem set_tail2 {Q : Unit → Shared → Prop} (F : Fr h₀ L s.heap m) (X₀ : K.In h₀) (N : News h₀ L s.heap news) (I : InstAt s.heap x ox 317 (some (dictOf (e0 :: e1 :: es) n))) (hd : ox.dict = some dx)
    (hs : findIn K (.ref 317) "__setattr__" = some (some (.builtin "object.__setattr__"))) (hp : plainOver K 317 = true) (ht : takerIn K 317 name = some none) (hh : hasDictIn K 317 = true)
    (h0 : (!e0.key.isStr name && !e0.refKey && (!e1.key.isStr name && !e1.refKey)) = true) (hT : Tl k es) (hk : Nat.ble k 100 = true) (U : UpdF dx (dictOf (e0 :: e1 :: es) n) news g)
    (h : ∀ es' n' h' tk', Tl (k + 1) es' → Fr h₀ L h' m → News h₀ L h' (g (dictOf (e0 :: e1 :: es') n')) → Q () { s with heap := h', toks := tk' }) :
    wpAny (model prog w) A (setAttr (.ref x) name v) Q E s := by
  obtain ⟨pre, post, rfl, hg, a, b⟩ := U.split
  obtain ⟨z, z'⟩ := Bool.and_eq_true_iff.mp h0
  obtain ⟨z1, z2⟩ := Bool.and_eq_true_iff.mp z
  obtain ⟨z3, z4⟩ := Bool.and_eq_true_iff.mp z'
  have z1 : e0.key.isStr name = false := by simpa using z1
  have z2 : e0.refKey = false := by simpa using z2
  have z3 : e1.key.isStr name = false := by simpa using z3
  have z4 : e1.refKey = false := by simpa using z4
  have T' := hT.put (x := name) (hs := PyData.keyHash w.params name) (t := s.toks + 1) (v := v)
  have q : putL name (PyData.keyHash w.params name) (.str name (s.toks + 1)) v (e0 :: e1 :: es) = e0 :: e1 :: putL name (PyData.keyHash w.params name) (.str name (s.toks + 1)) v es := by simp [putL, z1, z3]
  refine set_dict F X₀ N I hd hs hp ht hh (getL_any (by rw [List.any_cons, List.any_cons, z2, z4, hT.2]; rfl)) (by rw [q]) (upd_mid a b) ?_ fun h' F' N' => ?_
  · have := T'.1
    have := Nat.le_of_ble_eq_true hk
    rw [List.length_cons, List.length_cons]; omega
  · exact h _ _ h' _ T' F' (by rw [hg]; exact N')
end
section
variable {w : World} {mean : ExcName → Option Value} {mg mb : Str → Option Value} {dp un : Nat} {gd : Option (List Code)} {cn : Str} {cs : Scope} {a : Addr} {ccd : Value} {cl : List (Str × Addr)} {outer : List Env} {A₀ : Around} {base h₀ : Heap} {L : Addr} {m : Str → Option Value} {Q E : Value → Shared → Prop} {news rest : List (Addr × Obj)} {g : Obj → List (Addr × Obj)}
variable {x y p q : Int} {z1 z2 : Addr} {tx ty tp tq : Tok} {wa : Addr}
local macro_rules | `(tactic| k_room) => `(tactic| ktr_room)
local macro_rules | `(tactic| walk_at "eval Dict") => `(tactic| (k_here; k_dflt (refine' kdn_str ?q ?F ?N ?b ?a ?l ?e ?n ?_; (case q => rfl); (case F => k_asm); (case N => first | k_asm | exact News.nil); (case b => exact Top.nolimit (by k_asm)); (case a => rfl); (case l => rfl); (case e => exact List.cons_ne_nil _ _); (case n => exact Nat.le_of_ble_eq_true rfl)); intro d' h' o' F' N' l1 lo' hd'; (try k_lt l1)))
local macro_rules | `(tactic| walk_at "setAttr ref") => `(tactic| (k_here; k_dflt ((first
  | (refine' set_tail1 ?k1 ?k2 ?k3 ?k4 ?k5 ?k6 ?k7 ?k8 ?k9 ?h0 ?hT ?hk ?kU ?_; (case k4 => k_inst); (case hT => first | exact Tl.nil | with_reducible assumption))
  | (refine' set_tail2 ?k1 ?k2 ?k3 ?k4 ?k5 ?k6 ?k7 ?k8 ?k9 ?h0 ?hT ?hk ?kU ?_; (case k4 => k_inst); (case hT => first | exact Tl.nil | with_reducible assumption))); (case k1 => k_asm); (case k2 => k_asm); (case k3 => k_asm); (case k5 => exact rfl); (case k6 => k_is); (case k7 => k_is); (case k8 => k_is); (case k9 => k_is); (case h0 => rfl); (case hk => rfl); (case kU => k_updF); k_whole); intro es9 n9 h9 tk9 T9 F9 N9; (try dsimp only at N9); (try k_sweep)))
local macro_rules | `(tactic| walk_at "execs cons") => `(tactic| ((with_reducible show wpAny _ _ (execs (Stmt.Assign [Expr.Attribute _ (Str.ofString "freedom") _] _ _ :: _) _) _ _ _); (refine let_A ?_); intro A9; (k_dflt (refine wpAny_execs_cons ?_)); (try dsimp only)))
theorem gs_c (B : Below A₀ base outer h₀) (F : Fr h₀ L s.heap m) (X : (KF w.params).In h₀) (N : News h₀ L s.heap news) (T : Top qv LS mean mg mb h₀) (hk : cs.kind = .function) (hdp : dp + 4 < recursionLimit) (hu : un + 60 < cLine)
  (ret : ∀ (so sd f0 : Addr) (k3 : Tok) (es : List DictEntry) (n2 : Nat) (h' : Heap) (tk' : Nat), Fr h₀ L h' m → News h₀ L h' ((so, instObj 203 sd) :: (sd, dictOf (ent w (Str.ofString "freedom") k3 (.ref f0) :: es) n2) :: news) → Tl 100 es → LtA sd (news.map (·.1)) → LtA so (sd :: news.map (·.1)) → Q (.ref so) { s with heap := h', toks := tk' }) :
  wpAny (model PG w) (ktrTop dp un gd cn cs L a ccd cl outer) (call (.ref 203) []) Q E s := by
  obtain ⟨ck, cn1, cg1, cc1, cm1⟩ := cs
  dsimp only at hk
  subst hk
  k_steps
  refine' ret _ _ _ _ _ _ _ _ (by assumption) (cb_drop (by assumption) gsSub) (Tl.up (by assumption)) ?_ ?_
  · first | assumption | exact lta_of (by assumption)
  · exact lta_ups (by first | assumption | exact lta_of (by assumption)) (by assumption)
local macro_rules | `(tactic| walk_at "call ref") => `(tactic| (k_here; (with_reducible show wpAny _ _ (call (Value.ref 203) _) _ _ _); k_dflt (refine' gs_c ?k1 ?k2 ?k3 ?k4 ?k5 ?kK ?kd ?ku ?_; walk_at "K8"; k_whole); intro so sd f0 k3 es n2 h9 tk9 F9 N9 T9 l1 l2; (try dsimp only [List.map_cons, List.map_nil] at l1 l2); (try dsimp only); (try k_sweep)))
local macro_rules | `(tactic| walk_at "execs cons") => `(tactic| ((with_reducible show wpAny _ _ (execs (Stmt.Assign [Expr.Attribute _ (Str.ofString "state") _] _ _ :: _) _) _ _ _); (refine let_A ?_); intro A9; (k_dflt (refine wpAny_execs_cons ?_)); (try dsimp only)))
theorem work_c (B : Below A₀ base outer h₀) (F : Fr h₀ L s.heap m) (X : (KF w.params).In h₀) (N : News h₀ L s.heap ((z2, listOf #[] 0) :: (z1, listOf #[] 0) :: rest)) (T : Top qv LS mean mg mb h₀) (hk : cs.kind = .function) (hdp : dp + 6 < recursionLimit) (hu : un + 80 < cLine)
  (ret : ∀ (wx wd so sd kx kd nl f0 : Addr) (k1 k2 k3 k4 k5 tm : Tok) (wes es : List DictEntry) (n1 n2 n3 n4 : Nat) (h' : Heap) (tk' : Nat), Fr h₀ L h' m → News h₀ L h' ((wx, instObj 317 wd) :: (wd, dictOf (ent w (Str.ofString "state") k1 (.ref so) :: ent w (Str.ofString "stack") k2 (.ref kx) :: wes) n1) :: (so, instObj 203 sd) :: (sd, dictOf (ent w (Str.ofString "freedom") k3 (.ref f0) :: es) n2) :: (kx, instObj 266 kd) :: (kd, dictOf [ent w (Str.ofString "most") k4 (.int 64 tm), ent w (Str.ofString "numbers") k5 (.ref nl)] n3) :: (nl, listOf #[] n4) :: rest) → es.length ≤ 100 →
    NeA sd (wx :: wd :: so :: kx :: kd :: nl :: rest.map (·.1)) → NeA nl (wx :: wd :: so :: sd :: kx :: kd :: rest.map (·.1)) → Q (.ref wx) { s with heap := h', toks := tk' }) :
  wpAny (model PG w) (ktrTop dp un gd cn cs L a ccd cl outer) (call (.ref 317) [.ref z1, .ref z2]) Q E s := by
  obtain ⟨ck, cn1, cg1, cc1, cm1⟩ := cs
  dsimp only at hk
  subst hk
  k_steps
  refine' ret _ _ _ _ _ _ _ _ _ _ _ _ _ _ _ _ _ _ _ _ _ _ (by assumption) (cb_drop (by assumption) workSub) (Tl.le (by assumption) rfl) ?_ ?_
  all_goals (repeat (first | exact nea_rest (by k_all) | refine nea_cons (by k_ne) ?_))
end
local macro_rules | `(tactic| walk_at "call ref") => `(tactic| (k_here; (with_reducible show wpAny _ _ (call (Value.ref 317) [Value.ref _, Value.ref _]) _ _ _); k_dflt (refine' work_c ?k1 ?k2 ?k3 ?k4 ?k5 ?kK ?kd ?ku ?_; walk_at "K8"; k_whole); intro wx wd so sd kx kd nl f0 k1 k2 k3 k4 k5 tm wes es n1 n2 n3 n4 h9 tk9 F9 N9 hl9 D1 D2; (try dsimp only [List.map_cons, List.map_nil] at D1 D2); (try dsimp only); (try k_sweep)))
-- 23_state
theorem stSub5 {α : Type} {fr g1 g2 g3 t2 t1 wx wd so sd kx kd nl wa : α} {k : List α} : ∀ p ∈ so :: sd :: fr :: wa :: k, p ∈ fr :: g1 :: g2 :: g3 :: t2 :: t1 :: wx :: wd :: so :: sd :: kx :: kd :: nl :: wa :: k :=
  sub_at (mx 8 rfl) (sub_at (mx 9 rfl) (sub_at (mx 0 rfl) (sub_at (mx 13 rfl) (fun _ h => .tail _ (.tail _ (.tail _ (.tail _ (.tail _ (.tail _ (.tail _ (.tail _ (.tail _ (.tail _ (.tail _ (.tail _ (.tail _ (.tail _ (h))))))))))))))))))
theorem stSub1 {α : Type} {fr t1 wx wd so sd kx kd nl wa : α} {k : List α} : ∀ p ∈ so :: sd :: fr :: wa :: k, p ∈ fr :: t1 :: wx :: wd :: so :: sd :: kx :: kd :: nl :: wa :: k :=
  sub_at (mx 4 rfl) (sub_at (mx 5 rfl) (sub_at (mx 0 rfl) (sub_at (mx 9 rfl) (fun _ h => .tail _ (.tail _ (.tail _ (.tail _ (.tail _ (.tail _ (.tail _ (.tail _ (.tail _ (.tail _ (h))))))))))))))
theorem stSub2 {α : Type} {fr t2 t1 wx wd so sd kx kd nl wa : α} {k : List α} : ∀ p ∈ so :: sd :: fr :: wa :: k, p ∈ fr :: t2 :: t1 :: wx :: wd :: so :: sd :: kx :: kd :: nl :: wa :: k :=
  sub_at (mx 5 rfl) (sub_at (mx 6 rfl) (sub_at (mx 0 rfl) (sub_at (mx 10 rfl) (fun _ h => .tail _ (.tail _ (.tail _ (.tail _ (.tail _ (.tail _ (.tail _ (.tail _ (.tail _ (.tail _ (.tail _ (h)))))))))))))))
section
variable {w : World} {mean : ExcName → Option Value} {mg mb : Str → Option Value} {dp un : Nat} {gd : Option (List Code)} {cn : Str} {cs : Scope} {a : Addr} {ccd : Value} {cl : List (Str × Addr)} {outer : List Env} {A₀ : Around} {base h₀ : Heap} {L : Addr} {m : Str → Option Value} {Q E : Value → Shared → Prop} {news rest : List (Addr × Obj)} {g : Obj → List (Addr × Obj)}
variable {x y p q : Int} {z1 z2 : Addr} {tx ty tp tq : Tok} {wa : Addr}
local macro_rules | `(tactic| k_room) => `(tactic| ktr_room)
local macro_rules | `(tactic| walk_at "getAttr ref") => `(tactic| walk_at "R6")
local macro_rules | `(tactic| walk_at "setAttr ref") => `(tactic| (k_here; k_dflt (refine' set_dict ?k1 ?k2 ?k3 ?k4 ?k5 ?k6 ?k7 ?k8 ?k9 ?k10 ?k11 ?k12 ?k13 ?_; (case k1 => k_asm); (case k2 => k_asm); (case k3 => k_asm); (case k4 => k_inst); (case k5 => exact rfl); (case k6 => k_is); (case k7 => k_is); (case k8 => k_is); (case k9 => k_is); (case k10 => exact get_some); (case k11 => exact put_head); (case k12 => k_upd); (case k13 => exact len_head (by assumption)); k_whole; intro h' F' N'; (try k_sweep))))
local macro_rules | `(tactic| walk_at "ite") => `(tactic| (with_reducible refine ite_isFalse (by assumption) ?_))
theorem way_no {p q a b : Int} (h : ¬ (p = a ∧ q = b)) : (p == a && q == b) = false := by
  cases e : (p == a && q == b) with
  | false => rfl
  | true => rw [Bool.and_eq_true, beq_iff_eq, beq_iff_eq] at e; exact absurd e h
theorem state_c (B : Below A₀ base outer h₀) (F : Fr h₀ L s.heap m) (X : (KF w.params).In h₀) (N : News h₀ L s.heap ((wa, tup [.int p tp, .int q tq]) :: rest)) (T : Top qv LS mean mg mb h₀) (hk : cs.kind = .function) (hdp : dp + 8 < recursionLimit) (hu : un + 100 < cLine)
  (hpq : (p = 0 ∧ q = 1) ∨ (p = 1 ∧ q = 0) ∨ (p = 1 ∧ q = 1) ∨ (p = 3 ∧ q = -4) ∨ (p = -32768 ∧ q = 1) ∨ (p = 1 ∧ q = -32768))
  (ret : ∀ (so sd fr : Addr) (es : List DictEntry) (ne : Nat) (fx fy : Int) (tfx tfy : Tok) (h' : Heap) (tk' : Nat), Fr h₀ L h' m → News h₀ L h' ((so, instObj 203 sd) :: (sd, dictOf es ne) :: (fr, tup [.int fx tfx, .int fy tfy]) :: (wa, tup [.int p tp, .int q tq]) :: rest) → getL (Str.ofString "freedom") es = some (some (.ref fr)) → Q (.ref so) { s with heap := h', toks := tk' }) :
  wpAny (model PG w) (ktrTop dp un gd cn cs L a ccd cl outer) (call (.ref 424) [.ref wa]) Q E s := by
  obtain ⟨ck, cn1, cg1, cc1, cm1⟩ := cs
  dsimp only at hk
  subst hk
  refine wpAny_call ?_
  rcases hpq with ⟨rfl, rfl⟩ | ⟨rfl, rfl⟩ | hpq
  rotate_right
  · have hA : (p == 0 && q == 1) = false := way_no (by omega)
    have hB : (p == 1 && q == 0) = false := way_no (by omega)
    k_dflt k_enter
    refine let_A ?_
    intro A9
    k_steps
    exact ret _ _ _ _ _ _ _ _ _ _ _ (by assumption) (cb_drop (by assumption) stSub5) get_head
  all_goals k_dflt k_enter
  all_goals (refine let_A ?_; intro A9)
  all_goals k_steps
  all_goals (first | exact ret _ _ _ _ _ _ _ _ _ _ _ (by assumption) (cb_drop (by assumption) stSub2) get_head | exact ret _ _ _ _ _ _ _ _ _ _ _ (by assumption) (cb_drop (by assumption) stSub1) get_head)
end
local macro_rules | `(tactic| walk_at "call ref") => `(tactic| (k_here; (with_reducible show wpAny _ _ (call (Value.ref 424) _) _ _ _); k_dflt (refine' state_c ?k1 ?k2 ?k3 ?k4 ?k5 ?kK ?kd ?ku ?kx ?_; walk_at "K8"; (case kx => first | assumption | decide | simp only [true_and, and_true, true_or, or_true]); k_whole); intro so sd fr es ne fx fy tfx tfy h9 tk9 F9 N9 hfr; (try dsimp only); (try k_sweep)))
-- 24_deeds
theorem cells_six {cm : Str → Option Value} {n₁ n₂ n₃ n₄ n₅ n₆ : Str} {c₁ c₂ c₃ c₄ c₅ c₆ : Addr} {cells : List (Addr × Obj)} (x : CellsAre cm [(n₁, c₁), (n₂, c₂), (n₃, c₃), (n₄, c₄), (n₅, c₅), (n₆, c₆)] cells) :
    ∃ o₁ o₂ o₃ o₄ o₅ o₆, cells = [(c₁, o₁), (c₂, o₂), (c₃, o₃), (c₄, o₄), (c₅, o₅), (c₆, o₆)] ∧ o₁.data = .cell (cm n₁) ∧ o₂.data = .cell (cm n₂) ∧ o₃.data = .cell (cm n₃) ∧ o₄.data = .cell (cm n₄) ∧ o₅.data = .cell (cm n₅) ∧ o₆.data = .cell (cm n₆) := by
  cases x with | cons h r => cases r with | cons h' r' => obtain ⟨o₃, o₄, o₅, o₆, rfl, h₃, h₄, h₅, h₆⟩ := r'.four; exact ⟨_, _, o₃, o₄, o₅, o₆, rfl, h, h', h₃, h₄, h₅, h₆⟩
theorem frontZ {α : Type} {pe c1 c2 c3 c4 c5 c6 so sd fr po p0 p1 p2 dl : α} {k : List α} : ∀ p ∈ po :: p0 :: p1 :: p2 :: pe :: c1 :: c2 :: c3 :: c4 :: c5 :: c6 :: so :: sd :: fr :: dl :: k, p ∈ pe :: c1 :: c2 :: c3 :: c4 :: c5 :: c6 :: so :: sd :: fr :: po :: p0 :: p1 :: p2 :: dl :: k :=
  sub_at (mx 10 rfl) (sub_at (mx 11 rfl) (sub_at (mx 12 rfl) (sub_at (mx 13 rfl) (sub_at (mx 0 rfl) (sub_at (mx 1 rfl) (sub_at (mx 2 rfl) (sub_at (mx 3 rfl) (sub_at (mx 4 rfl) (sub_at (mx 5 rfl) (sub_at (mx 6 rfl) (sub_at (mx 7 rfl) (sub_at (mx 8 rfl) (sub_at (mx 9 rfl) (sub_at (mx 14 rfl) (fun _ h => .tail _ (.tail _ (.tail _ (.tail _ (.tail _ (.tail _ (.tail _ (.tail _ (.tail _ (.tail _ (.tail _ (.tail _ (.tail _ (.tail _ (.tail _ (h))))))))))))))))))))))))))))))
theorem rev6 {α : Type} {c1 c2 c3 c4 c5 c6 : α} {k : List α} : ∀ p ∈ c1 :: c2 :: c3 :: c4 :: c5 :: c6 :: k, p ∈ c6 :: c5 :: c4 :: c3 :: c2 :: c1 :: k :=
  sub_at (mx 5 rfl) (sub_at (mx 4 rfl) (sub_at (mx 3 rfl) (sub_at (mx 2 rfl) (sub_at (mx 1 rfl) (sub_at (mx 0 rfl) (fun _ h => .tail _ (.tail _ (.tail _ (.tail _ (.tail _ (.tail _ (h))))))))))))
theorem cell_ne {L i j : Nat} (h : i ≠ j) : L + i ≠ L + j := fun e => h (Nat.add_left_cancel e)
theorem entryP {α : Type} {fl tx mk r2 r1 r0 du zx zd og cu to q0 q1 q2 en oc po p0 p1 p2 pe l1 l2 l3 l4 l5 l6 so sd fr dl : α} {k : List α} : ∀ p ∈ so :: sd :: fr :: zx :: zd :: cu :: to :: du :: mk :: fl :: l1 :: l2 :: l3 :: l4 :: l5 :: l6 :: p0 :: p1 :: p2 :: p0 :: p1 :: p2 :: q0 :: q1 :: q2 :: r0 :: r1 :: r2 :: og :: en :: oc :: po :: p0 :: p1 :: p2 :: dl :: k, p ∈ fl :: tx :: mk :: r2 :: r1 :: r0 :: du :: zx :: zd :: og :: cu :: to :: q0 :: q1 :: q2 :: en :: oc :: po :: p0 :: p1 :: p2 :: pe :: l1 :: l2 :: l3 :: l4 :: l5 :: l6 :: so :: sd :: fr :: dl :: k :=
  sub_at (mx 28 rfl) (sub_at (mx 29 rfl) (sub_at (mx 30 rfl) (sub_at (mx 7 rfl) (sub_at (mx 8 rfl) (sub_at (mx 10 rfl) (sub_at (mx 11 rfl) (sub_at (mx 6 rfl) (sub_at (mx 2 rfl) (sub_at (mx 0 rfl) (sub_at (mx 22 rfl) (sub_at (mx 23 rfl) (sub_at (mx 24 rfl) (sub_at (mx 25 rfl) (sub_at (mx 26 rfl) (sub_at (mx 27 rfl) (sub_at (mx 18 rfl) (sub_at (mx 19 rfl) (sub_at (mx 20 rfl) (sub_at (mx 18 rfl) (sub_at (mx 19 rfl) (sub_at (mx 20 rfl) (sub_at (mx 12 rfl) (sub_at (mx 13 rfl) (sub_at (mx 14 rfl) (sub_at (mx 5 rfl) (sub_at (mx 4 rfl) (sub_at (mx 3 rfl) (sub_at (mx 9 rfl) (sub_at (mx 15 rfl) (sub_at (mx 16 rfl) (sub_at (mx 17 rfl) (sub_at (mx 18 rfl) (sub_at (mx 19 rfl) (sub_at (mx 20 rfl) (sub_at (mx 31 rfl) (fun _ h => .tail _ (.tail _ (.tail _ (.tail _ (.tail _ (.tail _ (.tail _ (.tail _ (.tail _ (.tail _ (.tail _ (.tail _ (.tail _ (.tail _ (.tail _ (.tail _ (.tail _ (.tail _ (.tail _ (.tail _ (.tail _ (.tail _ (.tail _ (.tail _ (.tail _ (.tail _ (.tail _ (.tail _ (.tail _ (.tail _ (.tail _ (.tail _ (h))))))))))))))))))))))))))))))))))))))))))))))))))))))))))))))))))))
theorem bne_dec (x : Int) : (x != 0) = decide (x ≠ 0) := by by_cases h : x = 0 <;> simp [h]
theorem stInit {L' so sd fr po p0 p1 p2 dl zx zd og cu to q0 q1 q2 en oc du r0 r1 r2 mk fl pe tx i0 j0 g0 i1 j1 g1 i2 j2 g2 : Addr} {R : List Addr}
  (l1 : LtA L' (so :: sd :: fr :: po :: p0 :: p1 :: p2 :: dl :: R))
  (D1 : NeA cu (zx :: zd :: og :: to :: q0 :: q1 :: q2 :: en :: oc :: po :: p0 :: p1 :: p2 :: pe :: (L' + 1) :: (L' + 2) :: (L' + 3) :: (L' + 4) :: (L' + 5) :: (L' + 6) :: so :: sd :: fr :: dl :: R))
  (D2 : NeA q0 (zx :: zd :: og :: to :: q1 :: q2 :: en :: oc :: po :: p0 :: p1 :: p2 :: pe :: (L' + 1) :: (L' + 2) :: (L' + 3) :: (L' + 4) :: (L' + 5) :: (L' + 6) :: so :: sd :: fr :: dl :: R))
  (D3 : NeA q1 (zx :: zd :: og :: to :: q0 :: q2 :: en :: oc :: po :: p0 :: p1 :: p2 :: pe :: (L' + 1) :: (L' + 2) :: (L' + 3) :: (L' + 4) :: (L' + 5) :: (L' + 6) :: so :: sd :: fr :: dl :: R))
  (D4 : NeA q2 (zx :: zd :: og :: to :: q0 :: q1 :: en :: oc :: po :: p0 :: p1 :: p2 :: pe :: (L' + 1) :: (L' + 2) :: (L' + 3) :: (L' + 4) :: (L' + 5) :: (L' + 6) :: so :: sd :: fr :: dl :: R))
  (D5 : NeA zx (po :: p0 :: p1 :: p2 :: pe :: (L' + 1) :: (L' + 2) :: (L' + 3) :: (L' + 4) :: (L' + 5) :: (L' + 6) :: so :: sd :: fr :: dl :: R))
  (D6 : NeA zd (po :: p0 :: p1 :: p2 :: pe :: (L' + 1) :: (L' + 2) :: (L' + 3) :: (L' + 4) :: (L' + 5) :: (L' + 6) :: so :: sd :: fr :: dl :: R))
  (D7 : NeA og (po :: p0 :: p1 :: p2 :: pe :: (L' + 1) :: (L' + 2) :: (L' + 3) :: (L' + 4) :: (L' + 5) :: (L' + 6) :: so :: sd :: fr :: dl :: R))
  (D8 : NeA to (po :: p0 :: p1 :: p2 :: pe :: (L' + 1) :: (L' + 2) :: (L' + 3) :: (L' + 4) :: (L' + 5) :: (L' + 6) :: so :: sd :: fr :: dl :: R))
  (D9 : NeA en (po :: p0 :: p1 :: p2 :: pe :: (L' + 1) :: (L' + 2) :: (L' + 3) :: (L' + 4) :: (L' + 5) :: (L' + 6) :: so :: sd :: fr :: dl :: R))
  (D10 : NeA oc (po :: p0 :: p1 :: p2 :: pe :: (L' + 1) :: (L' + 2) :: (L' + 3) :: (L' + 4) :: (L' + 5) :: (L' + 6) :: so :: sd :: fr :: dl :: R))
  (hdu : LtA du (zx :: zd :: og :: cu :: to :: q0 :: q1 :: q2 :: en :: oc :: po :: p0 :: p1 :: p2 :: pe :: (L' + 1) :: (L' + 2) :: (L' + 3) :: (L' + 4) :: (L' + 5) :: (L' + 6) :: so :: sd :: fr :: dl :: R))
  (hmk : NeA mk (r2 :: r1 :: r0 :: du :: zx :: zd :: og :: cu :: to :: q0 :: q1 :: q2 :: en :: oc :: po :: p0 :: p1 :: p2 :: pe :: (L' + 1) :: (L' + 2) :: (L' + 3) :: (L' + 4) :: (L' + 5) :: (L' + 6) :: so :: sd :: fr :: dl :: R))
  (hr0 : LtA r0 (i0 :: j0 :: g0 :: du :: zx :: zd :: og :: cu :: to :: q0 :: q1 :: q2 :: en :: oc :: po :: p0 :: p1 :: p2 :: pe :: (L' + 1) :: (L' + 2) :: (L' + 3) :: (L' + 4) :: (L' + 5) :: (L' + 6) :: so :: sd :: fr :: dl :: R))
  (hr1 : LtA r1 (i1 :: j1 :: g1 :: r0 :: du :: zx :: zd :: og :: cu :: to :: q0 :: q1 :: q2 :: en :: oc :: po :: p0 :: p1 :: p2 :: pe :: (L' + 1) :: (L' + 2) :: (L' + 3) :: (L' + 4) :: (L' + 5) :: (L' + 6) :: so :: sd :: fr :: dl :: R))
  (hr2 : LtA r2 (i2 :: j2 :: g2 :: r1 :: r0 :: du :: zx :: zd :: og :: cu :: to :: q0 :: q1 :: q2 :: en :: oc :: po :: p0 :: p1 :: p2 :: pe :: (L' + 1) :: (L' + 2) :: (L' + 3) :: (L' + 4) :: (L' + 5) :: (L' + 6) :: so :: sd :: fr :: dl :: R))
  (hfl : LtA fl (tx :: mk :: r2 :: r1 :: r0 :: du :: zx :: zd :: og :: cu :: to :: q0 :: q1 :: q2 :: en :: oc :: po :: p0 :: p1 :: p2 :: pe :: (L' + 1) :: (L' + 2) :: (L' + 3) :: (L' + 4) :: (L' + 5) :: (L' + 6) :: so :: sd :: fr :: dl :: R))
  : NeA cu [so, sd, fr, zx, zd, to, du, mk, fl, (L' + 1), (L' + 2), (L' + 3), (L' + 4), (L' + 5), (L' + 6), p0, p1, p2, p0, p1, p2, q0, q1, q2, r0, r1, r2] ∧ NeA du [so, sd, fr, zx, zd, cu, to, mk, fl, (L' + 1), (L' + 2), (L' + 3), (L' + 4), (L' + 5), (L' + 6), p0, p1, p2, p0, p1, p2, q0, q1, q2, r0, r1, r2] ∧ NeA mk [so, sd, fr, zx, zd, cu, to, du, fl, (L' + 1), (L' + 2), (L' + 3), (L' + 4), (L' + 5), (L' + 6), p0, p1, p2, p0, p1, p2, q0, q1, q2, r0, r1, r2] ∧ NeA (L' + 4) [so, sd, fr, zx, zd, cu, to, du, mk, fl, (L' + 1), (L' + 2), (L' + 3), (L' + 5), (L' + 6), p0, p1, p2, p0, p1, p2, q0, q1, q2, r0, r1, r2] ∧ NeA (L' + 5) [so, sd, fr, zx, zd, cu, to, du, mk, fl, (L' + 1), (L' + 2), (L' + 3), (L' + 4), (L' + 6), p0, p1, p2, p0, p1, p2, q0, q1, q2, r0, r1, r2] ∧ NeA (L' + 6) [so, sd, fr, zx, zd, cu, to, du, mk, fl, (L' + 1), (L' + 2), (L' + 3), (L' + 4), (L' + 5), p0, p1, p2, p0, p1, p2, q0, q1, q2, r0, r1, r2] ∧ NeA q0 [so, sd, fr, zx, zd, cu, to, du, mk, fl, (L' + 1), (L' + 2), (L' + 3), (L' + 4), (L' + 5), (L' + 6), p0, p1, p2, p0, p1, p2, q1, q2, r0, r1, r2] ∧ NeA q1 [so, sd, fr, zx, zd, cu, to, du, mk, fl, (L' + 1), (L' + 2), (L' + 3), (L' + 4), (L' + 5), (L' + 6), p0, p1, p2, p0, p1, p2, q0, q2, r0, r1, r2] ∧ NeA q2 [so, sd, fr, zx, zd, cu, to, du, mk, fl, (L' + 1), (L' + 2), (L' + 3), (L' + 4), (L' + 5), (L' + 6), p0, p1, p2, p0, p1, p2, q0, q1, r0, r1, r2] ∧ NeA cu (og :: en :: oc :: po :: p0 :: p1 :: p2 :: dl :: R) ∧ NeA du (og :: en :: oc :: po :: p0 :: p1 :: p2 :: dl :: R) ∧ NeA mk (og :: en :: oc :: po :: p0 :: p1 :: p2 :: dl :: R) ∧ NeA (L' + 4) (og :: en :: oc :: po :: p0 :: p1 :: p2 :: dl :: R) ∧ NeA (L' + 5) (og :: en :: oc :: po :: p0 :: p1 :: p2 :: dl :: R) ∧ NeA (L' + 6) (og :: en :: oc :: po :: p0 :: p1 :: p2 :: dl :: R) ∧ NeA q0 (og :: en :: oc :: po :: p0 :: p1 :: p2 :: dl :: R) ∧ NeA q1 (og :: en :: oc :: po :: p0 :: p1 :: p2 :: dl :: R) ∧ NeA q2 (og :: en :: oc :: po :: p0 :: p1 :: p2 :: dl :: R) :=
  ⟨nea_cons (ne_nea D1 (mx 20 rfl)) (nea_cons (ne_nea D1 (mx 21 rfl)) (nea_cons (ne_nea D1 (mx 22 rfl)) (nea_cons (ne_nea D1 (mx 0 rfl)) (nea_cons (ne_nea D1 (mx 1 rfl)) (nea_cons (ne_nea D1 (mx 3 rfl)) (nea_cons (Ne.symm (ne_lt hdu (mx 3 rfl))) (nea_cons (Ne.symm (ne_nea hmk (mx 7 rfl))) (nea_cons (Ne.symm (ne_lt hfl (mx 9 rfl))) (nea_cons (ne_nea D1 (mx 14 rfl)) (nea_cons (ne_nea D1 (mx 15 rfl)) (nea_cons (ne_nea D1 (mx 16 rfl)) (nea_cons (ne_nea D1 (mx 17 rfl)) (nea_cons (ne_nea D1 (mx 18 rfl)) (nea_cons (ne_nea D1 (mx 19 rfl)) (nea_cons (ne_nea D1 (mx 10 rfl)) (nea_cons (ne_nea D1 (mx 11 rfl)) (nea_cons (ne_nea D1 (mx 12 rfl)) (nea_cons (ne_nea D1 (mx 10 rfl)) (nea_cons (ne_nea D1 (mx 11 rfl)) (nea_cons (ne_nea D1 (mx 12 rfl)) (nea_cons (ne_nea D1 (mx 4 rfl)) (nea_cons (ne_nea D1 (mx 5 rfl)) (nea_cons (ne_nea D1 (mx 6 rfl)) (nea_cons (Ne.symm (ne_lt hr0 (mx 7 rfl))) (nea_cons (Ne.symm (ne_lt hr1 (mx 8 rfl))) (nea_cons (Ne.symm (ne_lt hr2 (mx 9 rfl))) (nea_nil))))))))))))))))))))))))))),
   nea_cons (ne_lt hdu (mx 21 rfl)) (nea_cons (ne_lt hdu (mx 22 rfl)) (nea_cons (ne_lt hdu (mx 23 rfl)) (nea_cons (ne_lt hdu (mx 0 rfl)) (nea_cons (ne_lt hdu (mx 1 rfl)) (nea_cons (ne_lt hdu (mx 3 rfl)) (nea_cons (ne_lt hdu (mx 4 rfl)) (nea_cons (Ne.symm (ne_nea hmk (mx 3 rfl))) (nea_cons (Ne.symm (ne_lt hfl (mx 5 rfl))) (nea_cons (ne_lt hdu (mx 15 rfl)) (nea_cons (ne_lt hdu (mx 16 rfl)) (nea_cons (ne_lt hdu (mx 17 rfl)) (nea_cons (ne_lt hdu (mx 18 rfl)) (nea_cons (ne_lt hdu (mx 19 rfl)) (nea_cons (ne_lt hdu (mx 20 rfl)) (nea_cons (ne_lt hdu (mx 11 rfl)) (nea_cons (ne_lt hdu (mx 12 rfl)) (nea_cons (ne_lt hdu (mx 13 rfl)) (nea_cons (ne_lt hdu (mx 11 rfl)) (nea_cons (ne_lt hdu (mx 12 rfl)) (nea_cons (ne_lt hdu (mx 13 rfl)) (nea_cons (ne_lt hdu (mx 5 rfl)) (nea_cons (ne_lt hdu (mx 6 rfl)) (nea_cons (ne_lt hdu (mx 7 rfl)) (nea_cons (Ne.symm (ne_lt hr0 (mx 3 rfl))) (nea_cons (Ne.symm (ne_lt hr1 (mx 4 rfl))) (nea_cons (Ne.symm (ne_lt hr2 (mx 5 rfl))) (nea_nil))))))))))))))))))))))))))),
   nea_cons (ne_nea hmk (mx 25 rfl)) (nea_cons (ne_nea hmk (mx 26 rfl)) (nea_cons (ne_nea hmk (mx 27 rfl)) (nea_cons (ne_nea hmk (mx 4 rfl)) (nea_cons (ne_nea hmk (mx 5 rfl)) (nea_cons (ne_nea hmk (mx 7 rfl)) (nea_cons (ne_nea hmk (mx 8 rfl)) (nea_cons (ne_nea hmk (mx 3 rfl)) (nea_cons (Ne.symm (ne_lt hfl (mx 1 rfl))) (nea_cons (ne_nea hmk (mx 19 rfl)) (nea_cons (ne_nea hmk (mx 20 rfl)) (nea_cons (ne_nea hmk (mx 21 rfl)) (nea_cons (ne_nea hmk (mx 22 rfl)) (nea_cons (ne_nea hmk (mx 23 rfl)) (nea_cons (ne_nea hmk (mx 24 rfl)) (nea_cons (ne_nea hmk (mx 15 rfl)) (nea_cons (ne_nea hmk (mx 16 rfl)) (nea_cons (ne_nea hmk (mx 17 rfl)) (nea_cons (ne_nea hmk (mx 15 rfl)) (nea_cons (ne_nea hmk (mx 16 rfl)) (nea_cons (ne_nea hmk (mx 17 rfl)) (nea_cons (ne_nea hmk (mx 9 rfl)) (nea_cons (ne_nea hmk (mx 10 rfl)) (nea_cons (ne_nea hmk (mx 11 rfl)) (nea_cons (ne_nea hmk (mx 2 rfl)) (nea_cons (ne_nea hmk (mx 1 rfl)) (nea_cons (ne_nea hmk (mx 0 rfl)) (nea_nil))))))))))))))))))))))))))),
   nea_cons (ne_cells l1 (mx 0 rfl)) (nea_cons (ne_cells l1 (mx 1 rfl)) (nea_cons (ne_cells l1 (mx 2 rfl)) (nea_cons (Ne.symm (ne_nea D5 (mx 8 rfl))) (nea_cons (Ne.symm (ne_nea D6 (mx 8 rfl))) (nea_cons (Ne.symm (ne_nea D1 (mx 17 rfl))) (nea_cons (Ne.symm (ne_nea D8 (mx 8 rfl))) (nea_cons (Ne.symm (ne_lt hdu (mx 18 rfl))) (nea_cons (Ne.symm (ne_nea hmk (mx 22 rfl))) (nea_cons (Ne.symm (ne_lt hfl (mx 24 rfl))) (nea_cons (cell_ne (L := L') (i := 1) (j := 4) (by decide)) (nea_cons (cell_ne (L := L') (i := 2) (j := 4) (by decide)) (nea_cons (cell_ne (L := L') (i := 3) (j := 4) (by decide)) (nea_cons (cell_ne (L := L') (i := 5) (j := 4) (by decide)) (nea_cons (cell_ne (L := L') (i := 6) (j := 4) (by decide)) (nea_cons (ne_cells l1 (mx 4 rfl)) (nea_cons (ne_cells l1 (mx 5 rfl)) (nea_cons (ne_cells l1 (mx 6 rfl)) (nea_cons (ne_cells l1 (mx 4 rfl)) (nea_cons (ne_cells l1 (mx 5 rfl)) (nea_cons (ne_cells l1 (mx 6 rfl)) (nea_cons (Ne.symm (ne_nea D2 (mx 16 rfl))) (nea_cons (Ne.symm (ne_nea D3 (mx 16 rfl))) (nea_cons (Ne.symm (ne_nea D4 (mx 16 rfl))) (nea_cons (Ne.symm (ne_lt hr0 (mx 22 rfl))) (nea_cons (Ne.symm (ne_lt hr1 (mx 23 rfl))) (nea_cons (Ne.symm (ne_lt hr2 (mx 24 rfl))) (nea_nil))))))))))))))))))))))))))),
   nea_cons (ne_cells l1 (mx 0 rfl)) (nea_cons (ne_cells l1 (mx 1 rfl)) (nea_cons (ne_cells l1 (mx 2 rfl)) (nea_cons (Ne.symm (ne_nea D5 (mx 9 rfl))) (nea_cons (Ne.symm (ne_nea D6 (mx 9 rfl))) (nea_cons (Ne.symm (ne_nea D1 (mx 18 rfl))) (nea_cons (Ne.symm (ne_nea D8 (mx 9 rfl))) (nea_cons (Ne.symm (ne_lt hdu (mx 19 rfl))) (nea_cons (Ne.symm (ne_nea hmk (mx 23 rfl))) (nea_cons (Ne.symm (ne_lt hfl (mx 25 rfl))) (nea_cons (cell_ne (L := L') (i := 1) (j := 5) (by decide)) (nea_cons (cell_ne (L := L') (i := 2) (j := 5) (by decide)) (nea_cons (cell_ne (L := L') (i := 3) (j := 5) (by decide)) (nea_cons (cell_ne (L := L') (i := 4) (j := 5) (by decide)) (nea_cons (cell_ne (L := L') (i := 6) (j := 5) (by decide)) (nea_cons (ne_cells l1 (mx 4 rfl)) (nea_cons (ne_cells l1 (mx 5 rfl)) (nea_cons (ne_cells l1 (mx 6 rfl)) (nea_cons (ne_cells l1 (mx 4 rfl)) (nea_cons (ne_cells l1 (mx 5 rfl)) (nea_cons (ne_cells l1 (mx 6 rfl)) (nea_cons (Ne.symm (ne_nea D2 (mx 17 rfl))) (nea_cons (Ne.symm (ne_nea D3 (mx 17 rfl))) (nea_cons (Ne.symm (ne_nea D4 (mx 17 rfl))) (nea_cons (Ne.symm (ne_lt hr0 (mx 23 rfl))) (nea_cons (Ne.symm (ne_lt hr1 (mx 24 rfl))) (nea_cons (Ne.symm (ne_lt hr2 (mx 25 rfl))) (nea_nil))))))))))))))))))))))))))),
   nea_cons (ne_cells l1 (mx 0 rfl)) (nea_cons (ne_cells l1 (mx 1 rfl)) (nea_cons (ne_cells l1 (mx 2 rfl)) (nea_cons (Ne.symm (ne_nea D5 (mx 10 rfl))) (nea_cons (Ne.symm (ne_nea D6 (mx 10 rfl))) (nea_cons (Ne.symm (ne_nea D1 (mx 19 rfl))) (nea_cons (Ne.symm (ne_nea D8 (mx 10 rfl))) (nea_cons (Ne.symm (ne_lt hdu (mx 20 rfl))) (nea_cons (Ne.symm (ne_nea hmk (mx 24 rfl))) (nea_cons (Ne.symm (ne_lt hfl (mx 26 rfl))) (nea_cons (cell_ne (L := L') (i := 1) (j := 6) (by decide)) (nea_cons (cell_ne (L := L') (i := 2) (j := 6) (by decide)) (nea_cons (cell_ne (L := L') (i := 3) (j := 6) (by decide)) (nea_cons (cell_ne (L := L') (i := 4) (j := 6) (by decide)) (nea_cons (cell_ne (L := L') (i := 5) (j := 6) (by decide)) (nea_cons (ne_cells l1 (mx 4 rfl)) (nea_cons (ne_cells l1 (mx 5 rfl)) (nea_cons (ne_cells l1 (mx 6 rfl)) (nea_cons (ne_cells l1 (mx 4 rfl)) (nea_cons (ne_cells l1 (mx 5 rfl)) (nea_cons (ne_cells l1 (mx 6 rfl)) (nea_cons (Ne.symm (ne_nea D2 (mx 18 rfl))) (nea_cons (Ne.symm (ne_nea D3 (mx 18 rfl))) (nea_cons (Ne.symm (ne_nea D4 (mx 18 rfl))) (nea_cons (Ne.symm (ne_lt hr0 (mx 24 rfl))) (nea_cons (Ne.symm (ne_lt hr1 (mx 25 rfl))) (nea_cons (Ne.symm (ne_lt hr2 (mx 26 rfl))) (nea_nil))))))))))))))))))))))))))),
   nea_cons (ne_nea D2 (mx 19 rfl)) (nea_cons (ne_nea D2 (mx 20 rfl)) (nea_cons (ne_nea D2 (mx 21 rfl)) (nea_cons (ne_nea D2 (mx 0 rfl)) (nea_cons (ne_nea D2 (mx 1 rfl)) (nea_cons (Ne.symm (ne_nea D1 (mx 4 rfl))) (nea_cons (ne_nea D2 (mx 3 rfl)) (nea_cons (Ne.symm (ne_lt hdu (mx 5 rfl))) (nea_cons (Ne.symm (ne_nea hmk (mx 9 rfl))) (nea_cons (Ne.symm (ne_lt hfl (mx 11 rfl))) (nea_cons (ne_nea D2 (mx 13 rfl)) (nea_cons (ne_nea D2 (mx 14 rfl)) (nea_cons (ne_nea D2 (mx 15 rfl)) (nea_cons (ne_nea D2 (mx 16 rfl)) (nea_cons (ne_nea D2 (mx 17 rfl)) (nea_cons (ne_nea D2 (mx 18 rfl)) (nea_cons (ne_nea D2 (mx 9 rfl)) (nea_cons (ne_nea D2 (mx 10 rfl)) (nea_cons (ne_nea D2 (mx 11 rfl)) (nea_cons (ne_nea D2 (mx 9 rfl)) (nea_cons (ne_nea D2 (mx 10 rfl)) (nea_cons (ne_nea D2 (mx 11 rfl)) (nea_cons (ne_nea D2 (mx 4 rfl)) (nea_cons (ne_nea D2 (mx 5 rfl)) (nea_cons (Ne.symm (ne_lt hr0 (mx 9 rfl))) (nea_cons (Ne.symm (ne_lt hr1 (mx 10 rfl))) (nea_cons (Ne.symm (ne_lt hr2 (mx 11 rfl))) (nea_nil))))))))))))))))))))))))))),
   nea_cons (ne_nea D3 (mx 19 rfl)) (nea_cons (ne_nea D3 (mx 20 rfl)) (nea_cons (ne_nea D3 (mx 21 rfl)) (nea_cons (ne_nea D3 (mx 0 rfl)) (nea_cons (ne_nea D3 (mx 1 rfl)) (nea_cons (Ne.symm (ne_nea D1 (mx 5 rfl))) (nea_cons (ne_nea D3 (mx 3 rfl)) (nea_cons (Ne.symm (ne_lt hdu (mx 6 rfl))) (nea_cons (Ne.symm (ne_nea hmk (mx 10 rfl))) (nea_cons (Ne.symm (ne_lt hfl (mx 12 rfl))) (nea_cons (ne_nea D3 (mx 13 rfl)) (nea_cons (ne_nea D3 (mx 14 rfl)) (nea_cons (ne_nea D3 (mx 15 rfl)) (nea_cons (ne_nea D3 (mx 16 rfl)) (nea_cons (ne_nea D3 (mx 17 rfl)) (nea_cons (ne_nea D3 (mx 18 rfl)) (nea_cons (ne_nea D3 (mx 9 rfl)) (nea_cons (ne_nea D3 (mx 10 rfl)) (nea_cons (ne_nea D3 (mx 11 rfl)) (nea_cons (ne_nea D3 (mx 9 rfl)) (nea_cons (ne_nea D3 (mx 10 rfl)) (nea_cons (ne_nea D3 (mx 11 rfl)) (nea_cons (Ne.symm (ne_nea D2 (mx 4 rfl))) (nea_cons (ne_nea D3 (mx 5 rfl)) (nea_cons (Ne.symm (ne_lt hr0 (mx 10 rfl))) (nea_cons (Ne.symm (ne_lt hr1 (mx 11 rfl))) (nea_cons (Ne.symm (ne_lt hr2 (mx 12 rfl))) (nea_nil))))))))))))))))))))))))))),
   nea_cons (ne_nea D4 (mx 19 rfl)) (nea_cons (ne_nea D4 (mx 20 rfl)) (nea_cons (ne_nea D4 (mx 21 rfl)) (nea_cons (ne_nea D4 (mx 0 rfl)) (nea_cons (ne_nea D4 (mx 1 rfl)) (nea_cons (Ne.symm (ne_nea D1 (mx 6 rfl))) (nea_cons (ne_nea D4 (mx 3 rfl)) (nea_cons (Ne.symm (ne_lt hdu (mx 7 rfl))) (nea_cons (Ne.symm (ne_nea hmk (mx 11 rfl))) (nea_cons (Ne.symm (ne_lt hfl (mx 13 rfl))) (nea_cons (ne_nea D4 (mx 13 rfl)) (nea_cons (ne_nea D4 (mx 14 rfl)) (nea_cons (ne_nea D4 (mx 15 rfl)) (nea_cons (ne_nea D4 (mx 16 rfl)) (nea_cons (ne_nea D4 (mx 17 rfl)) (nea_cons (ne_nea D4 (mx 18 rfl)) (nea_cons (ne_nea D4 (mx 9 rfl)) (nea_cons (ne_nea D4 (mx 10 rfl)) (nea_cons (ne_nea D4 (mx 11 rfl)) (nea_cons (ne_nea D4 (mx 9 rfl)) (nea_cons (ne_nea D4 (mx 10 rfl)) (nea_cons (ne_nea D4 (mx 11 rfl)) (nea_cons (Ne.symm (ne_nea D2 (mx 5 rfl))) (nea_cons (Ne.symm (ne_nea D3 (mx 5 rfl))) (nea_cons (Ne.symm (ne_lt hr0 (mx 11 rfl))) (nea_cons (Ne.symm (ne_lt hr1 (mx 12 rfl))) (nea_cons (Ne.symm (ne_lt hr2 (mx 13 rfl))) (nea_nil))))))))))))))))))))))))))),
   nea_cons (ne_nea D1 (mx 2 rfl)) (nea_cons (ne_nea D1 (mx 7 rfl)) (nea_cons (ne_nea D1 (mx 8 rfl)) (nea_cons (ne_nea D1 (mx 9 rfl)) (nea_cons (ne_nea D1 (mx 10 rfl)) (nea_cons (ne_nea D1 (mx 11 rfl)) (nea_cons (ne_nea D1 (mx 12 rfl)) (nea_cons (ne_nea D1 (mx 23 rfl)) ((fun b hb => ne_nea D1 (.tail _ (.tail _ (.tail _ (.tail _ (.tail _ (.tail _ (.tail _ (.tail _ (.tail _ (.tail _ (.tail _ (.tail _ (.tail _ (.tail _ (.tail _ (.tail _ (.tail _ (.tail _ (.tail _ (.tail _ (.tail _ (.tail _ (.tail _ (.tail _ (hb)))))))))))))))))))))))))))))))))),
   nea_cons (ne_lt hdu (mx 2 rfl)) (nea_cons (ne_lt hdu (mx 8 rfl)) (nea_cons (ne_lt hdu (mx 9 rfl)) (nea_cons (ne_lt hdu (mx 10 rfl)) (nea_cons (ne_lt hdu (mx 11 rfl)) (nea_cons (ne_lt hdu (mx 12 rfl)) (nea_cons (ne_lt hdu (mx 13 rfl)) (nea_cons (ne_lt hdu (mx 24 rfl)) ((fun b hb => ne_lt hdu (.tail _ (.tail _ (.tail _ (.tail _ (.tail _ (.tail _ (.tail _ (.tail _ (.tail _ (.tail _ (.tail _ (.tail _ (.tail _ (.tail _ (.tail _ (.tail _ (.tail _ (.tail _ (.tail _ (.tail _ (.tail _ (.tail _ (.tail _ (.tail _ (.tail _ (hb))))))))))))))))))))))))))))))))))),
   nea_cons (ne_nea hmk (mx 6 rfl)) (nea_cons (ne_nea hmk (mx 12 rfl)) (nea_cons (ne_nea hmk (mx 13 rfl)) (nea_cons (ne_nea hmk (mx 14 rfl)) (nea_cons (ne_nea hmk (mx 15 rfl)) (nea_cons (ne_nea hmk (mx 16 rfl)) (nea_cons (ne_nea hmk (mx 17 rfl)) (nea_cons (ne_nea hmk (mx 28 rfl)) ((fun b hb => ne_nea hmk (.tail _ (.tail _ (.tail _ (.tail _ (.tail _ (.tail _ (.tail _ (.tail _ (.tail _ (.tail _ (.tail _ (.tail _ (.tail _ (.tail _ (.tail _ (.tail _ (.tail _ (.tail _ (.tail _ (.tail _ (.tail _ (.tail _ (.tail _ (.tail _ (.tail _ (.tail _ (.tail _ (.tail _ (.tail _ (hb))))))))))))))))))))))))))))))))))))))),
   nea_cons (Ne.symm (ne_nea D7 (mx 8 rfl))) (nea_cons (Ne.symm (ne_nea D9 (mx 8 rfl))) (nea_cons (Ne.symm (ne_nea D10 (mx 8 rfl))) (nea_cons (ne_cells l1 (mx 3 rfl)) (nea_cons (ne_cells l1 (mx 4 rfl)) (nea_cons (ne_cells l1 (mx 5 rfl)) (nea_cons (ne_cells l1 (mx 6 rfl)) (nea_cons (ne_cells l1 (mx 7 rfl)) ((fun b hb => ne_cells l1 (.tail _ (.tail _ (.tail _ (.tail _ (.tail _ (.tail _ (.tail _ (.tail _ (hb)))))))))))))))))),
   nea_cons (Ne.symm (ne_nea D7 (mx 9 rfl))) (nea_cons (Ne.symm (ne_nea D9 (mx 9 rfl))) (nea_cons (Ne.symm (ne_nea D10 (mx 9 rfl))) (nea_cons (ne_cells l1 (mx 3 rfl)) (nea_cons (ne_cells l1 (mx 4 rfl)) (nea_cons (ne_cells l1 (mx 5 rfl)) (nea_cons (ne_cells l1 (mx 6 rfl)) (nea_cons (ne_cells l1 (mx 7 rfl)) ((fun b hb => ne_cells l1 (.tail _ (.tail _ (.tail _ (.tail _ (.tail _ (.tail _ (.tail _ (.tail _ (hb)))))))))))))))))),
   nea_cons (Ne.symm (ne_nea D7 (mx 10 rfl))) (nea_cons (Ne.symm (ne_nea D9 (mx 10 rfl))) (nea_cons (Ne.symm (ne_nea D10 (mx 10 rfl))) (nea_cons (ne_cells l1 (mx 3 rfl)) (nea_cons (ne_cells l1 (mx 4 rfl)) (nea_cons (ne_cells l1 (mx 5 rfl)) (nea_cons (ne_cells l1 (mx 6 rfl)) (nea_cons (ne_cells l1 (mx 7 rfl)) ((fun b hb => ne_cells l1 (.tail _ (.tail _ (.tail _ (.tail _ (.tail _ (.tail _ (.tail _ (.tail _ (hb)))))))))))))))))),
   nea_cons (ne_nea D2 (mx 2 rfl)) (nea_cons (ne_nea D2 (mx 6 rfl)) (nea_cons (ne_nea D2 (mx 7 rfl)) (nea_cons (ne_nea D2 (mx 8 rfl)) (nea_cons (ne_nea D2 (mx 9 rfl)) (nea_cons (ne_nea D2 (mx 10 rfl)) (nea_cons (ne_nea D2 (mx 11 rfl)) (nea_cons (ne_nea D2 (mx 22 rfl)) ((fun b hb => ne_nea D2 (.tail _ (.tail _ (.tail _ (.tail _ (.tail _ (.tail _ (.tail _ (.tail _ (.tail _ (.tail _ (.tail _ (.tail _ (.tail _ (.tail _ (.tail _ (.tail _ (.tail _ (.tail _ (.tail _ (.tail _ (.tail _ (.tail _ (.tail _ (hb))))))))))))))))))))))))))))))))),
   nea_cons (ne_nea D3 (mx 2 rfl)) (nea_cons (ne_nea D3 (mx 6 rfl)) (nea_cons (ne_nea D3 (mx 7 rfl)) (nea_cons (ne_nea D3 (mx 8 rfl)) (nea_cons (ne_nea D3 (mx 9 rfl)) (nea_cons (ne_nea D3 (mx 10 rfl)) (nea_cons (ne_nea D3 (mx 11 rfl)) (nea_cons (ne_nea D3 (mx 22 rfl)) ((fun b hb => ne_nea D3 (.tail _ (.tail _ (.tail _ (.tail _ (.tail _ (.tail _ (.tail _ (.tail _ (.tail _ (.tail _ (.tail _ (.tail _ (.tail _ (.tail _ (.tail _ (.tail _ (.tail _ (.tail _ (.tail _ (.tail _ (.tail _ (.tail _ (.tail _ (hb))))))))))))))))))))))))))))))))),
   nea_cons (ne_nea D4 (mx 2 rfl)) (nea_cons (ne_nea D4 (mx 6 rfl)) (nea_cons (ne_nea D4 (mx 7 rfl)) (nea_cons (ne_nea D4 (mx 8 rfl)) (nea_cons (ne_nea D4 (mx 9 rfl)) (nea_cons (ne_nea D4 (mx 10 rfl)) (nea_cons (ne_nea D4 (mx 11 rfl)) (nea_cons (ne_nea D4 (mx 22 rfl)) ((fun b hb => ne_nea D4 (.tail _ (.tail _ (.tail _ (.tail _ (.tail _ (.tail _ (.tail _ (.tail _ (.tail _ (.tail _ (.tail _ (.tail _ (.tail _ (.tail _ (.tail _ (.tail _ (.tail _ (.tail _ (.tail _ (.tail _ (.tail _ (.tail _ (.tail _ (hb)))))))))))))))))))))))))))))))))⟩
section
variable {w : World} {mean : ExcName → Option Value} {mg mb : Str → Option Value} {dp un : Nat} {gd : Option (List Code)} {cn : Str} {cs : Scope} {a : Addr} {ccd : Value} {cl : List (Str × Addr)} {A₀ : Around} {base h₀ : Heap} {L : Addr} {m : Str → Option Value} {Q E : Value → Shared → Prop} {news rest : List (Addr × Obj)} {g : Obj → List (Addr × Obj)}
variable {so sd fr po p0 p1 p2 dl : Addr} {fx fy x0 x1 x2 y0 y1 y2 : Int} {tfx tfy t0 t1 t2 u0 u1 u2 : Tok} {es : List DictEntry} {ne0 eo ed : Nat} {ds : List Deed}
local macro_rules | `(tactic| k_room) => `(tactic| ktr_room)
local macro_rules | `(tactic| walk_at "call type:tuple") => `(tactic| walk_at "R1")
local macro_rules | `(tactic| walk_at "call ref") => `(tactic| (k_here; (with_reducible show wpAny _ _ (call (Value.ref 373) [Value.ref _, Value.ref _]) _ _ _); refine Hold.out ?_))
set_option hygiene false in
local macro_rules | `(tactic| walk_at "exec For") => `(tactic| (k_here; k_dflt (refine' For_own (A₀ := ktrTop dp un gd cn { kind := .function, names := cn1, isGenerator := cg1, isCoroutine := cc1, more := cm1 } L a ccd cl []) (base := base) (outer := [envX cn { kind := .function, names := cn1, isGenerator := cg1, isCoroutine := cc1, more := cm1 } L a ccd cl]) (mean := mean) (mg := mg) (mb := mb) ?_ ?h1 ?h2; (case h1 => intro _; exact rfl); (case h2 => passes_own); k_whole)))
local macro_rules | `(tactic| walk_at "getAttr ref") => `(tactic| walk_at "R3")
set_option hygiene false in
local macro_rules | `(tactic| walk_at "storeName") => `(tactic| (k_here; (with_reducible show wpAny _ _ (storeName (envOfC _ _ _ _ _) _ _) _ _ _); k_dflt (first
  | (refine' storeX_C (c := L' + 1) ?F ?N ?c ?U ?d ?_ ?a ?b; (case c => rfl); (case a => rfl); (case b => rfl); (case F => k_asm); (case N => k_asm); (case U => k_updF); (case d => k_asm); k_whole; intro h' o' F' N' d'; (try dsimp only at N'); (try k_sweep))
  | (refine' storeX_C (c := L' + 2) ?F ?N ?c ?U ?d ?_ ?a ?b; (case c => rfl); (case a => rfl); (case b => rfl); (case F => k_asm); (case N => k_asm); (case U => k_updF); (case d => k_asm); k_whole; intro h' o' F' N' d'; (try dsimp only at N'); (try k_sweep))
  | (refine' storeX_C (c := L' + 3) ?F ?N ?c ?U ?d ?_ ?a ?b; (case c => rfl); (case a => rfl); (case b => rfl); (case F => k_asm); (case N => k_asm); (case U => k_updF); (case d => k_asm); k_whole; intro h' o' F' N' d'; (try dsimp only at N'); (try k_sweep)))))
theorem deeds_c (B : Below A₀ base [] h₀) (F : Fr h₀ L s.heap m) (X : (KF w.params).In h₀) (XB : (KF w.params).In base) (TB : Top qv LS mean mg mb base)
  (N : News h₀ L s.heap ((so, instObj 203 sd) :: (sd, dictOf es ne0) :: (fr, tup [.int fx tfx, .int fy tfy]) :: (po, listOf #[.ref p0, .ref p1, .ref p2] eo) :: (p0, ip x0 y0 t0 u0) :: (p1, ip x1 y1 t1 u1) :: (p2, ip x2 y2 t2 u2) :: (dl, listOf (ds.map Deed.val).toArray ed) :: rest))
  (T : Top qv LS mean mg mb h₀) (hk : cs.kind = .function) (hdp : dp + 12 < recursionLimit) (hu : un + 300 < cLine)
  (hds : ∀ d ∈ ds, ∀ p ∈ d.led, p ∈ rest) (hfr : getL (Str.ofString "freedom") es = some (some (.ref fr))) (hi : ∀ d ∈ ds, d.i = 0 ∨ d.i = 1 ∨ d.i = 2 ∨ d.i = -1 ∨ d.i = 3)
  (ret : ∀ (h' : Heap) (tk' : Nat), Fr h₀ L h' m → News h₀ L h' rest → Q (.bool true) { s with heap := h', toks := tk' }) :
  wpAny (model PG w) (ktrTop dp un gd cn cs L a ccd cl []) (call (.ref 417) [.ref so, .ref po, .ref dl]) Q E s := by
  obtain ⟨ck, cn1, cg1, cc1, cm1⟩ := cs
  dsimp only at hk
  subst hk
  refine wpAny_call ?_
  k_dflt (refine' code_defCS0 ?k1 ?k2 ?k3 ?k4 ?k5 ?kA ?kF ?kK ?k6 ?k7 ?k8 ?k9 ?kB ?kD ?_ ?c2 ?c3 ?c4; (case kA => exact rfl); (case kF => exact rfl); (case kK => exact rfl); (case k1 => k_asm); (case k2 => k_asm); (case k3 => k_asm); (case k4 => k_asm); (case k5 => k_asm); (case k6 => k_is); (case k7 => k_is); (case k8 => k_room); (case k9 => exact BindsTo.of_eq rfl); (case kB => exact rfl); (case kD => decide +kernel); (case c2 => exact rfl); (case c3 => exact rfl); (case c4 => exact rfl); k_whole; intro g' L' h' tk' cells' FG' F' N' Y' B' X' T' D' l1)
  have Y2 := cells_six Y'
  obtain ⟨oc1, oc2, oc3, oc4, oc5, oc6, hE', d1', d2', d3', d4', d5', d6'⟩ := Y2
  subst hE'
  clear Y'
  simp only [List.cons_append, List.nil_append] at N'
  replace N' : News g' L' h' ((L' + 1, oc6) :: (L' + 2, oc5) :: (L' + 3, oc4) :: (L' + 4, oc3) :: (L' + 5, oc2) :: (L' + 6, oc1) :: (so, instObj 203 sd) :: (sd, dictOf es ne0) :: (fr, tup [.int fx tfx, .int fy tfy]) :: (po, listOf #[.ref p0, .ref p1, .ref p2] eo) :: (p0, ip x0 y0 t0 u0) :: (p1, ip x1 y1 t1 u1) :: (p2, ip x2 y2 t2 u2) :: (dl, listOf (ds.map Deed.val).toArray ed) :: rest) := cb_drop N' rev6
  k_lt l1
  have n12 : L' + 1 ≠ L' + 2 := cell_ne (L := L') (i := 1) (j := 2) (by decide)
  have n13 : L' + 1 ≠ L' + 3 := cell_ne (L := L') (i := 1) (j := 3) (by decide)
  have n14 : L' + 1 ≠ L' + 4 := cell_ne (L := L') (i := 1) (j := 4) (by decide)
  have n15 : L' + 1 ≠ L' + 5 := cell_ne (L := L') (i := 1) (j := 5) (by decide)
  have n16 : L' + 1 ≠ L' + 6 := cell_ne (L := L') (i := 1) (j := 6) (by decide)
  have n23 : L' + 2 ≠ L' + 3 := cell_ne (L := L') (i := 2) (j := 3) (by decide)
  have n24 : L' + 2 ≠ L' + 4 := cell_ne (L := L') (i := 2) (j := 4) (by decide)
  have n25 : L' + 2 ≠ L' + 5 := cell_ne (L := L') (i := 2) (j := 5) (by decide)
  have n26 : L' + 2 ≠ L' + 6 := cell_ne (L := L') (i := 2) (j := 6) (by decide)
  have n34 : L' + 3 ≠ L' + 4 := cell_ne (L := L') (i := 3) (j := 4) (by decide)
  have n35 : L' + 3 ≠ L' + 5 := cell_ne (L := L') (i := 3) (j := 5) (by decide)
  have n36 : L' + 3 ≠ L' + 6 := cell_ne (L := L') (i := 3) (j := 6) (by decide)
  have n45 : L' + 4 ≠ L' + 5 := cell_ne (L := L') (i := 4) (j := 5) (by decide)
  have n46 : L' + 4 ≠ L' + 6 := cell_ne (L := L') (i := 4) (j := 6) (by decide)
  have n56 : L' + 5 ≠ L' + 6 := cell_ne (L := L') (i := 5) (j := 6) (by decide)
  dsimp only
  (try k_fold)
  k_steps
  unfold Hold
  k_dflt (refine' zone_c ?k1 ?k2 ?k3 (cb_drop ?k4 frontZ) ?k5 ?kK ?kd ?ku ?_; walk_at "K8"; k_whole)
  intro zx zd og cu to q0 q1 q2 en oc k1 k2 k3 k4 k5 e1 e2 e3 e4 e5 e6 e7 e8 h9 tk9 F9 N9 D1 D2 D3 D4 D5 D6 D7 D8 D9 D10
  (try dsimp only [List.map_cons, List.map_nil] at D1 D2 D3 D4 D5 D6 D7 D8 D9 D10)
  (try dsimp only)
  (try k_sweep)
  k_steps
  refine' withFn (K := KF w.params) (f := 417) ?ho ?h
  case ho => k_is
  intro e
  have hfd := fdAt_of e
  clear e
  k_dflt (refine' loop_c (c := ⟨L', so, sd, fr, zx, zd, og, cu, to, en, oc, _, _, _, po, p0, p1, p2, q0, q1, q2, fx, fy, x0, y0, x1, y1, x2, y2, tfx, tfy, k1, k2, k3, k4, k5, t0, t1, t2, tk', u0, u1, u2, es, ne0, _, _, _, _, _, e1, e7, e8, eo, _, _, _, (fx != 0), (fy != 0), _, _, _, (og, l3 p0 p1 p2 e1) :: (en, listOf #[.int 2 tk'] e7) :: (oc, listOf #[.bool true, .bool true, .bool true] e8) :: (po, l3 p0 p1 p2 eo) :: (p0, ip x0 y0 t0 u0) :: (p1, ip x1 y1 t1 u1) :: (p2, ip x2 y2 t2 u2) :: (dl, listOf (ds.map Deed.val).toArray ed) :: rest⟩) (p := ⟨p0, p1, p2, p0, p1, p2, _, _, _, x0, y0, x1, y1, x2, y2, t0, u0, t1, u1, t2, u2, t0, u0, t1, u1, t2, u2, false, false, false, false, false, false, _, _, _⟩) (ds := ds) (ed := ed) hfd ?ht ⟨KtsTurn.refl, by assumption, cb_drop (by assumption) entryP, by assumption, by assumption, by assumption, by assumption⟩ XB TB rfl ?hdp ?hu ?C ?S d3' d2' d1' ?hdl ?hds hi ?fin)
  case ht => exact rfl
  case hdp => omega
  case hu => omega
  case C => exact ⟨bne_dec _, bne_dec _, hfr, by assumption, by assumption, by assumption, mx 0 rfl, mx 1 rfl, mx 2 rfl, mx 3 rfl, mx 4 rfl, mx 5 rfl, mx 6 rfl⟩
  case hdl => exact mx 7 rfl
  case hds => exact fun d hd q hq => .tail _ (.tail _ (.tail _ (.tail _ (.tail _ (.tail _ (.tail _ (.tail _ (hds d hd q hq))))))))
  case S =>
    have hS := stInit l1 D1 D2 D3 D4 D5 D6 D7 D8 D9 D10 (by assumption) (by assumption) (by assumption) (by assumption) (by assumption) (by assumption)
    obtain ⟨a1, a2, a3, a4, a5, a6, a7, a8, a9, a10, a11, a12, a13, a14, a15, a16, a17, a18⟩ := hS
    exact ⟨rfl, rfl, rfl, a1, a2, a3, a4, a5, a6, a7, a8, a9, a10, a11, a12, a13, a14, a15, a16, a17, a18⟩
  case fin =>
    clear FG' N' F'
    intro g2 m2 h2 tk2 pp q4 q5 q6 Tn2
    obtain ⟨Tt, F2, N2, B2, X2, T2, D2⟩ := Tn2
    dsimp only [Cfg.led] at N2 F2
    dsimp only
    k_steps
    refine ret _ _ (by assumption) (cb_drop (by assumption) ?_)
    intro q hq
    repeat (first | exact hq | refine List.Mem.tail _ ?_)
end
-- 25_pool
section
variable {w : World} {mean : ExcName → Option Value} {mg mb : Str → Option Value} {dp un : Nat} {gd : Option (List Code)} {cn : Str} {cs : Scope} {a : Addr} {ccd : Value} {cl : List (Str × Addr)} {outer : List Env} {A₀ : Around} {base h₀ : Heap} {L : Addr} {m : Str → Option Value} {Q E : Value → Shared → Prop} {news rest : List (Addr × Obj)} {g : Obj → List (Addr × Obj)}
variable {l : Addr} {vs : List Value} {ns : List Int}
local macro_rules | `(tactic| k_room) => `(tactic| ktr_room)
theorem pool_c (B : Below A₀ base outer h₀) (F : Fr h₀ L s.heap m) (X : (KF w.params).In h₀) (N : News h₀ L s.heap news) (T : Top qv LS mean mg mb h₀) (hk : cs.kind = .function) (hl : base.IsList l vs.toArray) (hI : IntsAre vs ns) (hn : ns.length < 2 ^ 62) (hdp : dp + 2 < recursionLimit) (hu : un + 16 < cLine)
  (ret : ∀ (src : Addr) (va vb : Int) (ta tb : Tok) (h' : Heap) (tk' : Nat), 0 ≤ vb → vb < 2147483647 → Fr h₀ L h' m → News h₀ L h' ((src, lst [.int va ta, .int vb tb]) :: news) → (∀ p ∈ news, p.1 < src) → Q (.ref src) { s with heap := h', toks := tk' }) :
  wpAny (model PG w) (ktrTop dp un gd cn cs L a ccd cl outer) (call (.ref 384) [.ref l]) Q E s := by
  obtain ⟨ck, cn1, cg1, cc1, cm1⟩ := cs
  dsimp only at hk
  subst hk
  refine wpAny_call ?_
  k_dflt k_enter
  refine let_A ?_
  intro A9
  k_steps
  all_goals refine ret _ _ _ _ _ _ _ ?_ ?_ (by assumption) (by assumption) (by assumption)
  all_goals first | exact fm_lo _ (by decide) | exact fm_hi _ (by decide)
end
local macro_rules | `(tactic| walk_at "call ref") => `(tactic| (k_here; (with_reducible show wpAny _ _ (call (Value.ref 384) _) _ _ _); k_dflt (refine' pool_c ?k1 ?k2 ?k3 ?k4 ?k5 ?kK ?kl ?kI ?kn ?kd ?ku ?_; walk_at "K8"; (case kl => k_asm); (case kI => l_ints); (case kn => l_fit); k_whole); intro src va vb ta tb h9 tk9 b09 b19 F9 N9 l9; (try k_lt l9); (try dsimp only); (try k_sweep)))
-- 25b_lawturn
theorem ltP {α : Type} {da dsa g1 g2 g3 g4 lc sr dl : α} {k : List α} : ∀ p ∈ lc :: sr :: dl :: da :: dsa :: k, p ∈ da :: dsa :: g1 :: g2 :: g3 :: g4 :: lc :: sr :: dl :: k :=
  sub_at (mx 6 rfl) (sub_at (mx 7 rfl) (sub_at (mx 8 rfl) (sub_at (mx 0 rfl) (sub_at (mx 1 rfl) (fun _ h => .tail _ (.tail _ (.tail _ (.tail _ (.tail _ (.tail _ (.tail _ (.tail _ (.tail _ (h))))))))))))))
theorem int6 {v : Value} {x1 x2 x3 x4 x5 x6 : Int} {t1 t2 t3 t4 t5 t6 : Tok} (h : v ∈ [Value.int x1 t1, .int x2 t2, .int x3 t3, .int x4 t4, .int x5 t5, .int x6 t6]) : ∃ x t, v = .int x t := by
  simp only [List.mem_cons, List.not_mem_nil, or_false] at h
  rcases h with h | h | h | h | h | h <;> exact ⟨_, _, h⟩
theorem idx8 {v : Value} {t1 t2 t3 t4 t5 t6 t7 t8 : Tok} (h : v ∈ [Value.int 0 t1, .int 1 t2, .int 2 t3, .int 0 t4, .int 1 t5, .int 2 t6, .int (-1) t7, .int 3 t8]) : ∃ i t, v = .int i t ∧ (i = 0 ∨ i = 1 ∨ i = 2 ∨ i = -1 ∨ i = 3) := by
  simp only [List.mem_cons, List.not_mem_nil, or_false] at h
  rcases h with h | h | h | h | h | h | h | h <;> exact ⟨_, _, h, by decide⟩
section
variable {w : World} {mean : ExcName → Option Value} {mg mb : Str → Option Value} {base h₀ : Heap} {L fa src dl so po : Addr} {cd : Value} {m : Str → Option Value} {Q : Flow → Shared → Prop} {E : Value → Shared → Prop} {rest : List (Addr × Obj)} {fd : FuncData} {oc : Obj} {va vb : Int} {ta tb : Tok} {ds : List Deed} {ed : Nat}
theorem push_deed {ds : List Deed} {d : Deed} {n : Nat} : listOf ((ds.map Deed.val).toArray.push d.val) n = listOf ((ds ++ [d]).map Deed.val).toArray n := by
  congr 1
  simp
local macro_rules | `(tactic| k_room) => `(tactic| ktr_room)
local macro_rules | `(tactic| walk_at "eval Name") => `(tactic| walk_at "R9")
local macro_rules | `(tactic| walk_at "call builtin:list.append") => `(tactic| (k_here; (with_reducible show wpAny _ _ (call (Value.builtin _) [Value.ref _, _]) _ _ _); k_dflt (refine' append_K ?k1 ?k2 ?k3 ?_ ?z; (case k1 => k_asm); (case k2 => k_asm); (case k3 => k_upd); (case z => (simp only [List.size_toArray, List.length_map]; rw [sizeLine_eq]; omega)); k_whole); intro h' F' N'; (try k_sweep)))
local macro_rules | `(tactic| walk_at "CompSrc") => `(tactic| walk_at "R7")
theorem body_l (hfd : fdAt w 429 = some fd) (B : Below callerA base [] h₀) (F : Fr h₀ L s.heap m) (X : (KF w.params).In h₀) (T : Top qv LS mean mg mb h₀)
  (N : News h₀ L s.heap ((L + 1, oc) :: (src, lst [.int va ta, .int vb tb]) :: (dl, listOf (ds.map Deed.val).toArray ed) :: rest))
  (hc : oc.data = .cell (some (.ref src))) (hb0 : 0 ≤ vb) (hb1 : vb < 2147483647) (hlen : ds.length ≤ 4) (hmd : m (Str.ofString "deeds") = some (.ref dl)) (hms : m (Str.ofString "state") = some (.ref so)) (hmo : m (Str.ofString "old") = some (.ref po))
  (ns : NeA src ((L + 1) :: dl :: rest.map (·.1))) (nd : NeA dl ((L + 1) :: src :: rest.map (·.1)))
  (ret : ∀ (d : Deed) (va' vb' : Int) (ta' tb' : Tok) (m' : Str → Option Value) (h' : Heap) (tk' ed' : Nat), (d.i = 0 ∨ d.i = 1 ∨ d.i = 2 ∨ d.i = -1 ∨ d.i = 3) → 0 ≤ vb' → vb' < 2147483647 → Fr h₀ L h' m' → m' (Str.ofString "deeds") = some (.ref dl) → m' (Str.ofString "state") = some (.ref so) → m' (Str.ofString "old") = some (.ref po) →
    News h₀ L h' ((L + 1, oc) :: (src, lst [.int va' ta', .int vb' tb']) :: (dl, listOf ((ds.map Deed.val).toArray.push d.val) ed') :: (d.a, tup [.int d.i d.ti, .ref d.sa, .bool d.b]) :: (d.sa, ip d.x d.y d.tx d.ty) :: rest) → NeA src [d.a, d.sa] → NeA dl [d.a, d.sa] → NeA d.a (rest.map (·.1)) → NeA d.sa (rest.map (·.1)) → Q .next { s with heap := h', toks := tk' }) :
  wpAny (model PG w) (callerA.deeper (envOfC fd.qualname fd.scope L fa cd)) (execs (loopBody fd) (envOfC fd.qualname fd.scope L fa cd)) Q E s := by
  refine' withFn (K := KF w.params) (f := 429) ?ho ?h
  case ho => k_is
  intro e
  have e' := fdAt_of e
  rw [hfd] at e'
  obtain rfl := Option.some.inj e'
  clear e e' hfd
  dsimp only [loopBody, List.findSome?, Option.getD]
  k_steps
  rename (_ ∈ [_, _, _, _, _, _, _, _]) => hq
  obtain ⟨i, ti, rfl, hi⟩ := idx8 hq
  clear hq
  rename (_ ∈ [_, _, _, _, _, _]) => hq
  obtain ⟨y, ty, rfl⟩ := int6 hq
  clear hq
  rename (_ ∈ [_, _, _, _, _, _]) => hq
  obtain ⟨x, tx, rfl⟩ := int6 hq
  clear hq
  refine' ret ⟨_, _, i, x, y, ti, tx, ty, _⟩ _ _ _ _ _ _ _ _ hi ?b0 ?b1 (by assumption) ?s1 ?s2 ?s3 (cb_drop (by assumption) ltP) ?n1 ?n2 ?n3 ?n4
  case b0 => assumption
  case b1 => assumption
  case s1 => (repeat rw [if_neg (by decide)]); assumption
  case s2 => (repeat rw [if_neg (by decide)]); assumption
  case s3 => (repeat rw [if_neg (by decide)]); assumption
  case n3 => exact nea_rest (by k_all)
  case n4 => exact nea_rest (by k_all)
  all_goals (dsimp only; repeat (first | exact nea_nil | refine nea_cons (by k_ne) ?_))
end
-- 25c_turns
theorem turnBack {α : Type} {da dl dsa it lc sr : α} {k : List α} : ∀ p ∈ it :: lc :: sr :: dl :: da :: dsa :: k, p ∈ lc :: sr :: dl :: da :: dsa :: it :: k :=
  sub_at (mx 5 rfl) (sub_at (mx 0 rfl) (sub_at (mx 1 rfl) (sub_at (mx 2 rfl) (sub_at (mx 3 rfl) (sub_at (mx 4 rfl) (fun _ h => .tail _ (.tail _ (.tail _ (.tail _ (.tail _ (.tail _ (h))))))))))))
section
variable {w : World} {mean : ExcName → Option Value} {mg mb : Str → Option Value} {base h₀ : Heap} {L fa src dl so po : Addr} {cd : Value} {m : Str → Option Value} {Q : Flow → Shared → Prop} {E : Value → Shared → Prop} {rest : List (Addr × Obj)} {fd : FuncData} {oc : Obj} {va vb : Int} {ta tb : Tok} {ds : List Deed} {ed : Nat}
theorem turns_l {I : Addr} {rest₀ : List (Addr × Obj)} (hfd : fdAt w 429 = some fd) (B : Below callerA base [] h₀) (X : (KF w.params).In h₀) (T : Top qv LS mean mg mb h₀) (hc : oc.data = .cell (some (.ref src)))
  (fin : ∀ (ds : List Deed) (va vb : Int) (ta tb : Tok) (ed : Nat) (rest : List (Addr × Obj)) (m : Str → Option Value) (h : Heap) (tk : Nat), (∀ d ∈ ds, d.i = 0 ∨ d.i = 1 ∨ d.i = 2 ∨ d.i = -1 ∨ d.i = 3) → (∀ d ∈ ds, ∀ q ∈ d.led, q ∈ rest) → (∀ q ∈ rest₀, q ∈ rest) → m (Str.ofString "deeds") = some (.ref dl) → m (Str.ofString "state") = some (.ref so) → m (Str.ofString "old") = some (.ref po) →
    Fr h₀ L h m → News h₀ L h ((L + 1, oc) :: (src, lst [.int va ta, .int vb tb]) :: (dl, listOf (ds.map Deed.val).toArray ed) :: rest) → Q .next { s with heap := h, toks := tk }) :
  ∀ (k i : Nat), k + i = 5 → ∀ (m : Str → Option Value) (rest : List (Addr × Obj)) (ds : List Deed) (va vb : Int) (ta tb : Tok) (ed : Nat), ds.length = i → 0 ≤ vb → vb < 2147483647 → m (Str.ofString "deeds") = some (.ref dl) → m (Str.ofString "state") = some (.ref so) → m (Str.ofString "old") = some (.ref po) →
    (∀ d ∈ ds, d.i = 0 ∨ d.i = 1 ∨ d.i = 2 ∨ d.i = -1 ∨ d.i = 3) → (∀ d ∈ ds, ∀ q ∈ d.led, q ∈ rest) → (∀ q ∈ rest₀, q ∈ rest) → NeA src ((L + 1) :: dl :: rest.map (·.1)) → NeA dl ((L + 1) :: src :: rest.map (·.1)) → NeA I ((L + 1) :: src :: dl :: rest.map (·.1)) →
    RangeRest PG w (callerA.deeper (envOfC fd.qualname fd.scope L fa cd)) E h₀ (envOfC fd.qualname fd.scope L fa cd) (Str.ofString "turn") (loopBody fd) Q s I 0 5 k i m ((L + 1, oc) :: (src, lst [.int va ta, .int vb tb]) :: (dl, listOf (ds.map Deed.val).toArray ed) :: rest) := by
  intro k
  induction k with
  | zero =>
    intro i hk m rest ds va vb ta tb ed hlen b0 b1 hmd hms hmo hi hds hsub ns nd hI
    exact RangeRest.zero (fun h tk F N => fin ds va vb ta tb ed rest m h tk hi hds hsub hmd hms hmo F N)
  | succ k ih =>
    intro i hk m rest ds va vb ta tb ed hlen b0 b1 hmd hms hmo hi hds hsub ns nd hI
    refine RangeRest.succ (fun t h tk F N => ?_)
    have nI : I ≠ src := Ne.symm (hI _ (.tail _ (.head _)))
    have nJ : I ≠ dl := Ne.symm (hI _ (.tail _ (.tail _ (.head _))))
    refine body_l (s := { s with heap := h, toks := tk }) (so := so) (po := po) (ds := ds) hfd B F X T (cb_drop N front1) hc b0 b1 (by omega) ?_ ?_ ?_ (nea_cons (ns _ (.head _)) (nea_cons (ns _ (.tail _ (.head _))) (nea_cons nI fun b hb => ns b (.tail _ (.tail _ hb))))) (nea_cons (nd _ (.head _)) (nea_cons (nd _ (.tail _ (.head _))) (nea_cons nJ fun b hb => nd b (.tail _ (.tail _ hb))))) ?_
    · show (if _ then _ else _) = _
      rw [if_neg (by decide)]; exact hmd
    · show (if _ then _ else _) = _
      rw [if_neg (by decide)]; exact hms
    · show (if _ then _ else _) = _
      rw [if_neg (by decide)]; exact hmo
    intro d va' vb' ta' tb' m' h' tk' ed' di b0' b1' F' hmd' hms' hmo' N' s1 s2 s3 s4
    rw [push_deed] at N'
    refine UnrEnd.intro F' N' ((L + 1, oc) :: (src, lst [.int va' ta', .int vb' tb']) :: (dl, listOf ((ds ++ [d]).map Deed.val).toArray ed') :: (d.a, tup [.int d.i d.ti, .ref d.sa, .bool d.b]) :: (d.sa, ip d.x d.y d.tx d.ty) :: rest) turnBack ?_ ?_
    · have hall : NeA I ((L + 1) :: src :: dl :: d.a :: d.sa :: rest.map (·.1)) := nea_cons (hI _ (.head _)) (nea_cons (hI _ (.tail _ (.head _))) (nea_cons (hI _ (.tail _ (.tail _ (.head _)))) (nea_cons (Ne.symm (s3 _ (.head _))) (nea_cons (Ne.symm (s4 _ (.head _))) fun b hb => hI b (.tail _ (.tail _ (.tail _ hb)))))))
      intro p hp
      exact hall p.1 (List.mem_map.mpr ⟨p, hp, rfl⟩ : p.1 ∈ List.map (·.1) ((L + 1, oc) :: (src, lst [.int va' ta', .int vb' tb']) :: (dl, listOf ((ds ++ [d]).map Deed.val).toArray ed') :: (d.a, tup [.int d.i d.ti, .ref d.sa, .bool d.b]) :: (d.sa, ip d.x d.y d.tx d.ty) :: rest))
    · refine ih (i + 1) (by omega) m' ((d.a, tup [.int d.i d.ti, .ref d.sa, .bool d.b]) :: (d.sa, ip d.x d.y d.tx d.ty) :: rest) (ds ++ [d]) va' vb' ta' tb' ed' (by simp [hlen]) b0' b1' hmd' hms' hmo' ?_ ?_ ?_ ?_ ?_ ?_
      · intro e he
        rcases List.mem_append.mp he with he | he
        · exact hi e he
        · rw [List.mem_singleton.mp he]; exact di
      · intro e he q hq
        rcases List.mem_append.mp he with he | he
        · exact .tail _ (.tail _ (hds e he q hq))
        · rw [List.mem_singleton.mp he] at hq
          rcases List.mem_cons.mp hq with rfl | hq
          · exact .head _
          · rcases List.mem_cons.mp hq with rfl | hq
            · exact .tail _ (.head _)
            · cases hq
      · exact fun q hq => .tail _ (.tail _ (hsub q hq))
      · exact nea_cons (ns _ (.head _)) (nea_cons (ns _ (.tail _ (.head _))) (nea_cons (s1 _ (.head _)) (nea_cons (s1 _ (.tail _ (.head _))) fun b hb => ns b (.tail _ (.tail _ hb)))))
      · exact nea_cons (nd _ (.head _)) (nea_cons (nd _ (.tail _ (.head _))) (nea_cons (s2 _ (.head _)) (nea_cons (s2 _ (.tail _ (.head _))) fun b hb => nd b (.tail _ (.tail _ hb)))))
      · exact nea_cons (hI _ (.head _)) (nea_cons (hI _ (.tail _ (.head _))) (nea_cons (hI _ (.tail _ (.tail _ (.head _)))) (nea_cons (Ne.symm (s3 _ (.head _))) (nea_cons (Ne.symm (s4 _ (.head _))) fun b hb => hI b (.tail _ (.tail _ (.tail _ hb)))))))
end
-- 26_law
theorem lawP1 {α : Type} {d0 d1 dl fr p0 p1 p2 po s0 s1 sd so wa : α} {k : List α} : ∀ p ∈ so :: sd :: fr :: po :: p0 :: p1 :: p2 :: dl :: d1 :: s1 :: d0 :: s0 :: k, p ∈ dl :: d1 :: s1 :: d0 :: s0 :: po :: p2 :: p1 :: p0 :: so :: sd :: fr :: wa :: k :=
  sub_at (mx 9 rfl) (sub_at (mx 10 rfl) (sub_at (mx 11 rfl) (sub_at (mx 5 rfl) (sub_at (mx 8 rfl) (sub_at (mx 7 rfl) (sub_at (mx 6 rfl) (sub_at (mx 0 rfl) (sub_at (mx 1 rfl) (sub_at (mx 2 rfl) (sub_at (mx 3 rfl) (sub_at (mx 4 rfl) (fun _ h => .tail _ (.tail _ (.tail _ (.tail _ (.tail _ (.tail _ (.tail _ (.tail _ (.tail _ (.tail _ (.tail _ (.tail _ (.tail _ (h)))))))))))))))))))))))))
theorem lawP2 {α : Type} {tx dl po p2 p1 p0 so sd fr sr lc : α} : ∀ p ∈ [lc, sr, dl, so, sd, fr, po, p0, p1, p2], p ∈ [tx, dl, po, p2, p1, p0, so, sd, fr, sr, lc] :=
  sub_at (mx 10 rfl) (sub_at (mx 9 rfl) (sub_at (mx 1 rfl) (sub_at (mx 6 rfl) (sub_at (mx 7 rfl) (sub_at (mx 8 rfl) (sub_at (mx 2 rfl) (sub_at (mx 5 rfl) (sub_at (mx 4 rfl) (sub_at (mx 3 rfl) (fun _ h => nomatch h))))))))))
theorem drop4 {α : Type} {a b c d : α} {k : List α} : ∀ p ∈ k, p ∈ a :: b :: c :: d :: k := fun _ h => .tail _ (.tail _ (.tail _ (.tail _ h)))
theorem dropW7 {α : Type} {so sd fr a b c d e f g : α} {k : List α} : ∀ p ∈ so :: sd :: fr :: k, p ∈ so :: sd :: fr :: a :: b :: c :: d :: e :: f :: g :: k :=
  sub_at (mx 0 rfl) (sub_at (mx 1 rfl) (sub_at (mx 2 rfl) (fun _ h => .tail _ (.tail _ (.tail _ (.tail _ (.tail _ (.tail _ (.tail _ (.tail _ (.tail _ (.tail _ h))))))))))))
theorem leds_nil {rest : List (Addr × Obj)} : ∀ x ∈ ([] : List Deed), ∀ p ∈ x.led, p ∈ rest := fun _ h => nomatch h
theorem leds_cons {d : Deed} {ds : List Deed} {rest : List (Addr × Obj)} (h1 : (d.a, tup [.int d.i d.ti, .ref d.sa, .bool d.b]) ∈ rest) (h2 : (d.sa, ip d.x d.y d.tx d.ty) ∈ rest) (h : ∀ x ∈ ds, ∀ p ∈ x.led, p ∈ rest) : ∀ x ∈ d :: ds, ∀ p ∈ x.led, p ∈ rest := fun x hx p hp => by
  rcases List.mem_cons.mp hx with rfl | hx
  · rcases List.mem_cons.mp hp with rfl | hp
    · exact h1
    · rcases List.mem_cons.mp hp with rfl | hp
      · exact h2
      · cases hp
  · exact h x hx p hp
theorem his_nil : ∀ d ∈ ([] : List Deed), d.i = 0 ∨ d.i = 1 ∨ d.i = 2 ∨ d.i = -1 ∨ d.i = 3 := fun _ h => nomatch h
theorem his_cons {d : Deed} {ds : List Deed} (h1 : d.i = 0 ∨ d.i = 1 ∨ d.i = 2 ∨ d.i = -1 ∨ d.i = 3) (h : ∀ d ∈ ds, d.i = 0 ∨ d.i = 1 ∨ d.i = 2 ∨ d.i = -1 ∨ d.i = 3) : ∀ x ∈ d :: ds, x.i = 0 ∨ x.i = 1 ∨ x.i = 2 ∨ x.i = -1 ∨ x.i = 3 := fun x hx => by
  rcases List.mem_cons.mp hx with rfl | hx
  · exact h1
  · exact h x hx
theorem dropWa {α : Type} {a b c d : α} {k : List α} : ∀ p ∈ a :: b :: c :: k, p ∈ a :: b :: c :: d :: k :=
  sub_at (mx 0 rfl) (sub_at (mx 1 rfl) (sub_at (mx 2 rfl) (fun _ h => .tail _ (.tail _ (.tail _ (.tail _ (h)))))))
theorem news_c {h₀ h : Heap} {L : Addr} {l l' : List (Addr × Obj)} {p : Addr × Obj} (N' : News h₀ L h l') (hp : p ∈ l') (N : News h₀ L h l) : News h₀ L h (p :: l) := fun q hq => by
  rcases List.mem_cons.mp hq with rfl | hq
  · exact N' _ hp
  · exact N _ hq
section
variable {w : World} {mean : ExcName → Option Value} {mg mb : Str → Option Value} {dp un : Nat} {gd : Option (List Code)} {cn : Str} {cs : Scope} {a : Addr} {ccd : Value} {cl : List (Str × Addr)} {outer : List Env} {A₀ : Around} {base h₀ : Heap} {L : Addr} {m : Str → Option Value} {Q E : Value → Shared → Prop} {l : List (Addr × Obj)}
theorem news_ne {h₀ h : Heap} {L : Addr} {l : List (Addr × Obj)} {a b : Addr} {o1 o2 : Obj} (N : News h₀ L h l) (h1 : (a, o1) ∈ l) (h2 : (b, o2) ∈ l) (hne : o1.cls ≠ o2.cls) : a ≠ b := fun e => hne (by
  subst e
  have e1 := (N _ h1).1
  have e2 := (N _ h2).1
  rw [e1] at e2
  exact congrArg Obj.cls (Option.some.inj e2))
theorem state_w {src : Addr} {va vb : Int} {ta tb : Tok} {v : Value} {a1 a2 a3 a4 a5 a6 : Addr} {t1 t2 t3 t4 t5 t6 u1 u2 u3 u4 u5 u6 : Tok} (B : Below A₀ base outer h₀) (F : Fr h₀ L s.heap m) (X : (KF w.params).In h₀) (N : News h₀ L s.heap l) (T : Top qv LS mean mg mb h₀) (hk : cs.kind = .function) (hdp : dp + 8 < recursionLimit) (hu : un + 100 < cLine)
  (hv : v ∈ [Value.ref a1, .ref a2, .ref a3, .ref a4, .ref a5, .ref a6]) (h1 : (a1, tup [.int 0 t1, .int 1 u1]) ∈ l) (h2 : (a2, tup [.int 1 t2, .int 0 u2]) ∈ l) (h3 : (a3, tup [.int 1 t3, .int 1 u3]) ∈ l) (h4 : (a4, tup [.int 3 t4, .int (-4) u4]) ∈ l) (h5 : (a5, tup [.int (-32768) t5, .int 1 u5]) ∈ l) (h6 : (a6, tup [.int 1 t6, .int (-32768) u6]) ∈ l) (hs : (src, lst [.int va ta, .int vb tb]) ∈ l)
  (ret : ∀ (so sd fr : Addr) (es : List DictEntry) (ne : Nat) (fx fy : Int) (tfx tfy : Tok) (h' : Heap) (tk' : Nat), Fr h₀ L h' m → News h₀ L h' ((so, instObj 203 sd) :: (sd, dictOf es ne) :: (fr, tup [.int fx tfx, .int fy tfy]) :: l) → getL (Str.ofString "freedom") es = some (some (.ref fr)) → NeA src [so, sd, fr] → Q (.ref so) { s with heap := h', toks := tk' }) :
  wpAny (model PG w) (ktrTop dp un gd cn cs L a ccd cl outer) (call (.ref 424) [v]) Q E s := by
  have hw : ∃ wa p q tp tq, v = .ref wa ∧ ((p = 0 ∧ q = 1) ∨ (p = 1 ∧ q = 0) ∨ (p = 1 ∧ q = 1) ∨ (p = 3 ∧ q = -4) ∨ (p = -32768 ∧ q = 1) ∨ (p = 1 ∧ q = -32768)) ∧ (wa, tup [.int p tp, .int q tq]) ∈ l := by
    simp only [List.mem_cons, List.not_mem_nil, or_false] at hv
    rcases hv with h | h | h | h | h | h
    · exact ⟨_, 0, 1, _, _, h, by decide, h1⟩
    · exact ⟨_, 1, 0, _, _, h, by decide, h2⟩
    · exact ⟨_, 1, 1, _, _, h, by decide, h3⟩
    · exact ⟨_, 3, -4, _, _, h, by decide, h4⟩
    · exact ⟨_, -32768, 1, _, _, h, by decide, h5⟩
    · exact ⟨_, 1, -32768, _, _, h, by decide, h6⟩
  obtain ⟨wa, p, q, tp, tq, rfl, hpq, hm⟩ := hw
  exact state_c B F X (news_add N hm) T hk hdp hu hpq fun so sd fr es ne fx fy tfx tfy h' tk' F' N' hfr => ret so sd fr es ne fx fy tfx tfy h' tk' F' (cb_drop N' dropWa) hfr (nea_cons (news_ne (cb_drop N' dropWa) (.head _) (.tail _ (.tail _ (.tail _ hs))) (by simp)) (nea_cons (news_ne (cb_drop N' dropWa) (.tail _ (.head _)) (.tail _ (.tail _ (.tail _ hs))) (by simp)) (nea_cons (news_ne (cb_drop N' dropWa) (.tail _ (.tail _ (.head _))) (.tail _ (.tail _ (.tail _ hs))) (by simp)) nea_nil)))
end
theorem rr_mono {prog : Program} {w : World} {A : Around} {E : Value → Shared → Prop} {s : Shared} {env : Env} {h₀ : Heap} {x : Str} {body : List Stmt} {Q : Flow → Shared → Prop} {I : Addr} {a : Int} {n k i : Nat} {m : Str → Option Value} {n1 n2 : List (Addr × Obj)}
  (h : RangeRest prog w A E h₀ env x body Q s I a n k i m n1) (sub : ∀ p ∈ n1, p ∈ n2) : RangeRest prog w A E h₀ env x body Q s I a n k i m n2 := by
  cases k with
  | zero => exact fun h' tk F N => h h' tk F (cb_drop N sub)
  | succ k => exact fun t h' tk F N => h t h' tk F (cb_drop N fun p hp => by
      rcases List.mem_cons.mp hp with hp | hp
      · exact hp ▸ .head _
      · exact .tail _ (sub p hp))
theorem withFnX {K : Frag} {hp : Heap} (_ : K.In hp) {f : Addr} {P : Prop} {name qual : Str} {params : Arguments} {body : List Stmt} {scope : Scope} {dV kV doc pm cdv ct oc : Value} {an od : Option Addr} {osl : Array (Option Value)}
    (ho : K.lookup f = some ⟨oc, od, .func (fnOf name qual params body scope dV kV doc pm an cdv ct), osl⟩) (h : K.lookup f = some ⟨oc, od, .func (fnOf name qual params body scope dV kV doc pm an cdv ct), osl⟩ → P) : P := h ho
local macro_rules | `(tactic| walk_at "call ref") => `(tactic| (k_here; (with_reducible show wpAny _ _ (call (Value.ref 417) _) _ _ _); refine Hold.out ?_))
local macro_rules | `(tactic| walk_at "eval Name") => `(tactic| walk_at "R9")
local macro_rules | `(tactic| walk_at "RangeRest") => `(tactic| (refine Hold.out ?_))
local macro_rules | `(tactic| walk_at "CompSrc") => `(tactic| walk_at "R7")
local macro_rules | `(tactic| walk_at "call ref") => `(tactic| (k_here; (with_reducible show wpAny _ _ (call (Value.ref 424) _) _ _ _); (fail_if_success (with_reducible show wpAny _ _ (call (Value.ref 424) [Value.ref _]) _ _ _)); refine Hold.out ?_))
theorem law_walk.tw4536570234885838379 : True := trivial
theorem law_walk.tw7450389347547974810 : True := trivial
theorem law_walk.tw1308284014337473614 : True := trivial
set_option Elab.async true in
theorem law_walk : WalkO qv [Str.ofString "HintWork", Str.ofString "Zone"] (XL qv []) (InK KF) PySem.Challenge.rw_xm0733_01.row.toRowW ⟨Str.ofString "law", fa45, fb45, fs45, fPos (stAt PG0.main.body [37])⟩ [] (fun f vs => PySem.call f vs) := by
  intro w s₀ s₁ mg mb G Y fa o pm cd doc dV kV ho hd hcd hD hmg hg args vals as hpre hlay hrd hwl hlo
  have KX : (KF w.params).In s₁.heap := Y
  k_behind G ho hd hcd hD hmg hpre hlay hrd hwl hlo cd
  (all_goals try k_fold)
  k_steps
  unfold Hold
  k_dflt (refine' deeds_c (ds := [⟨_, _, 1, 5, 9, _, _, _, true⟩, ⟨_, _, 3, 1, 1, _, _, _, true⟩]) ?k1 ?k2 ?k3 ?XB ?TB (cb_drop ?k4 lawP1) ?k5 ?kK ?kd ?ku ?hds ?hfr ?hi ?ret)
  case k1 => k_asm
  case k2 => k_asm
  case k3 => k_asm
  case XB => assumption
  case TB => assumption
  case k4 => k_asm
  case k5 => k_asm
  case kK => exact rfl
  case kd => ktr_room
  case ku => ktr_units
  case hds =>
    refine leds_cons ?_ ?_ (leds_cons ?_ ?_ leds_nil)
    · iterate 2 (refine List.Mem.tail _ ?_)
      refine List.Mem.head _
    · iterate 3 (refine List.Mem.tail _ ?_)
      refine List.Mem.head _
    · refine List.Mem.head _
    · refine List.Mem.tail _ ?_
      refine List.Mem.head _
  case hfr => assumption
  case hi => exact his_cons (.inr (.inl rfl)) (his_cons (.inr (.inr (.inr (.inr rfl)))) his_nil)
  case ret =>
    intro h9 tk9 F9 N9
    replace N9 := cb_drop N9 drop4
    dsimp only
    k_steps
    unfold Hold
    k_dflt (refine' state_w ?k1 ?k2 ?k3 ?k4 ?k5 ?kK ?kd ?ku ?hv ?h1 ?h2 ?h3 ?h4 ?h5 ?h6 ?hs ?_; walk_at "K8"; (case hv => assumption); (case h1 => (repeat (first | refine List.Mem.head _ | refine List.Mem.tail _ ?_))); (case h2 => (repeat (first | refine List.Mem.head _ | refine List.Mem.tail _ ?_))); (case h3 => (repeat (first | refine List.Mem.head _ | refine List.Mem.tail _ ?_))); (case h4 => (repeat (first | refine List.Mem.head _ | refine List.Mem.tail _ ?_))); (case h5 => (repeat (first | refine List.Mem.head _ | refine List.Mem.tail _ ?_))); (case h6 => (repeat (first | refine List.Mem.head _ | refine List.Mem.tail _ ?_))); (case hs => (repeat (first | refine List.Mem.head _ | refine List.Mem.tail _ ?_))); k_whole)
    intro so sd fr es ne fx fy tfx tfy h9 tk9 F9 N9 hfr hn9
    (replace N9 := cb_drop N9 dropW7)
    (try dsimp only)
    (try k_sweep)
    k_steps
    unfold Hold
    rename Frag.In _ _ => KX9
    refine' withFnX KX9 (f := 429) ?ho ?h
    case ho => k_is
    intro e
    have hfd := fdAt_of e
    clear e
    k_dflt (refine' rr_mono (turns_l hfd ?B ?X ?T ?hc ?fin 5 0 rfl _ _ [] _ _ _ _ _ rfl ?b0 ?b1 rfl rfl rfl his_nil leds_nil (fun _ h => h) ?n1 ?n2 ?n3) lawP2)
    case B => assumption
    case X => assumption
    case T => assumption
    case hc => assumption
    case b0 => assumption
    case b1 => assumption
    case n1 => (try simp only [List.map_cons, List.map_nil]); repeat (first | exact nea_nil | refine nea_cons (by k_ne) ?_)
    case n2 => (try simp only [List.map_cons, List.map_nil]); repeat (first | exact nea_nil | refine nea_cons (by k_ne) ?_)
    case n3 => (try simp only [List.map_cons, List.map_nil]); repeat (first | exact nea_nil | refine nea_cons (by k_ne) ?_)
    case fin =>
      intro ds va vb ta tb ed rest m h tk hi hds hsub hmd hms hmo F N
      dsimp only
      k_steps
      unfold Hold
      have A0 := hsub _ (List.Mem.head _)
      have A1 := hsub _ (List.Mem.tail _ (List.Mem.head _))
      have A2 := hsub _ (List.Mem.tail _ (List.Mem.tail _ (List.Mem.head _)))
      have A3 := hsub _ (List.Mem.tail _ (List.Mem.tail _ (List.Mem.tail _ (List.Mem.head _))))
      have A4 := hsub _ (List.Mem.tail _ (List.Mem.tail _ (List.Mem.tail _ (List.Mem.tail _ (List.Mem.head _)))))
      have A5 := hsub _ (List.Mem.tail _ (List.Mem.tail _ (List.Mem.tail _ (List.Mem.tail _ (List.Mem.tail _ (List.Mem.head _))))))
      have A6 := hsub _ (List.Mem.tail _ (List.Mem.tail _ (List.Mem.tail _ (List.Mem.tail _ (List.Mem.tail _ (List.Mem.tail _ (List.Mem.head _)))))))
      have N8 := news_c N (List.Mem.tail _ (List.Mem.tail _ (List.Mem.tail _ A0))) (news_c N (List.Mem.tail _ (List.Mem.tail _ (List.Mem.tail _ A1))) (news_c N (List.Mem.tail _ (List.Mem.tail _ (List.Mem.tail _ A2))) (news_c N (List.Mem.tail _ (List.Mem.tail _ (List.Mem.tail _ A3))) (news_c N (List.Mem.tail _ (List.Mem.tail _ (List.Mem.tail _ A4))) (news_c N (List.Mem.tail _ (List.Mem.tail _ (List.Mem.tail _ A5))) (news_c N (List.Mem.tail _ (List.Mem.tail _ (List.Mem.tail _ A6))) (news_c N (List.Mem.tail _ (List.Mem.tail _ (List.Mem.head _))) N)))))))
      k_dflt (refine' deeds_c (ds := ds) (ed := ed) ?k1 ?k2 ?k3 ?XB ?TB N8 ?k5 ?kK ?kd ?ku ?hds ?hfr hi ?ret)
      case k1 => k_asm
      case k2 => k_asm
      case k3 => k_asm
      case XB => assumption
      case TB => assumption
      case k5 => k_asm
      case kK => exact rfl
      case kd => ktr_room
      case ku => ktr_units
      case hds => exact fun d hd q hq => List.Mem.tail _ (List.Mem.tail _ (List.Mem.tail _ (hds d hd q hq)))
      case hfr => assumption
      case ret =>
        intro h9 tk9 F9 N9
        dsimp only
        k_steps
-- 27_main
theorem main.tw10047389527955405517 : True := trivial
theorem main.tw10094358506670053839 : True := trivial
theorem main.tw10114013102757674387 : True := trivial
theorem main.tw10140136200207757160 : True := trivial
theorem main.tw10159738436595150677 : True := trivial
theorem main.tw10177057350305019805 : True := trivial
theorem main.tw10199874654664476236 : True := trivial
theorem main.tw10204856939554784155 : True := trivial
theorem main.tw10234815189450012239 : True := trivial
theorem main.tw10334261112615635914 : True := trivial
theorem main.tw10363585996791799541 : True := trivial
theorem main.tw10450603732522932521 : True := trivial
theorem main.tw10609540516017602915 : True := trivial
theorem main.tw10625486282989778954 : True := trivial
theorem main.tw10642606787283503386 : True := trivial
theorem main.tw10665089971535097683 : True := trivial
theorem main.tw10669944970481658594 : True := trivial
theorem main.tw10707853282979444102 : True := trivial
theorem main.tw10821422270917381399 : True := trivial
theorem main.tw10876375607700338302 : True := trivial
theorem main.tw10877679251791092727 : True := trivial
theorem main.tw10896356407431480244 : True := trivial
theorem main.tw1099256609624015869 : True := trivial
theorem main.tw11003572833241299968 : True := trivial
theorem main.tw11101190512080308003 : True := trivial
theorem main.tw11135027115929721415 : True := trivial
theorem main.tw11156056980113079860 : True := trivial
theorem main.tw11181722664286889309 : True := trivial
theorem main.tw11261727412033496967 : True := trivial
theorem main.tw1130211791997205004 : True := trivial
theorem main.tw11403851563620829512 : True := trivial
theorem main.tw11416931114567727565 : True := trivial
theorem main.tw11501822485730972192 : True := trivial
theorem main.tw11554813239044494598 : True := trivial
theorem main.tw1157997071576566072 : True := trivial
theorem main.tw11595355409239048105 : True := trivial
theorem main.tw11646826074482590764 : True := trivial
theorem main.tw11652434378139913451 : True := trivial
theorem main.tw11710404883906591787 : True := trivial
theorem main.tw11752208632293872130 : True := trivial
theorem main.tw11785714552879321826 : True := trivial
theorem main.tw1178595665728414349 : True := trivial
theorem main.tw11815829001073249272 : True := trivial
theorem main.tw11857135199678951331 : True := trivial
theorem main.tw11982392923317675503 : True := trivial
theorem main.tw11987853993630220354 : True := trivial
theorem main.tw12057704586751987240 : True := trivial
theorem main.tw12077450504624328385 : True := trivial
theorem main.tw12205347405646519318 : True := trivial
theorem main.tw12252054271945606052 : True := trivial
theorem main.tw12273490649430754879 : True := trivial
theorem main.tw12298629886278197574 : True := trivial
theorem main.tw12343854547171428336 : True := trivial
theorem main.tw12361340156312767134 : True := trivial
theorem main.tw12431561837914552411 : True := trivial
theorem main.tw12431731261707249289 : True := trivial
theorem main.tw12441034214690065526 : True := trivial
theorem main.tw12455012482086183272 : True := trivial
theorem main.tw12483276189755474720 : True := trivial
theorem main.tw12518504611687188807 : True := trivial
theorem main.tw12590340796369385619 : True := trivial
theorem main.tw12623159325031504133 : True := trivial
theorem main.tw12670839924663504800 : True := trivial
theorem main.tw12839114828313443825 : True := trivial
theorem main.tw12872379398031375081 : True := trivial
theorem main.tw12885673836220544336 : True := trivial
theorem main.tw12900284412222446716 : True := trivial
theorem main.tw12915833801598196605 : True := trivial
theorem main.tw12922898485456448571 : True := trivial
theorem main.tw12927740378394474205 : True := trivial
theorem main.tw12941917028564957548 : True := trivial
theorem main.tw1306636233014830658 : True := trivial
theorem main.tw13113777628852026922 : True := trivial
theorem main.tw13219505800766818778 : True := trivial
theorem main.tw13224007501803129859 : True := trivial
theorem main.tw13348322127785295214 : True := trivial
theorem main.tw13402765919934010277 : True := trivial
theorem main.tw13590572293223372214 : True := trivial
theorem main.tw13626721169425172152 : True := trivial
theorem main.tw13642826006792871662 : True := trivial
theorem main.tw13667920496262714385 : True := trivial
theorem main.tw13676971244355772609 : True := trivial
theorem main.tw13693970394777133609 : True := trivial
theorem main.tw13724616953566380437 : True := trivial
theorem main.tw13803360072150633466 : True := trivial
theorem main.tw13838900630717943254 : True := trivial
theorem main.tw13876859957761632879 : True := trivial
theorem main.tw1390771862084280389 : True := trivial
theorem main.tw13962693860625380366 : True := trivial
theorem main.tw14009396871252706886 : True := trivial
theorem main.tw14027531716089632829 : True := trivial
theorem main.tw14061640607465278742 : True := trivial
theorem main.tw14064073609400967072 : True := trivial
theorem main.tw1409966394225722968 : True := trivial
theorem main.tw14106445559736802775 : True := trivial
theorem main.tw14161005256144132680 : True := trivial
theorem main.tw14218914174604095658 : True := trivial
theorem main.tw1429040668314091153 : True := trivial
theorem main.tw1439166485080882 : True := trivial
theorem main.tw14457758005677747962 : True := trivial
theorem main.tw1453356044741674121 : True := trivial
theorem main.tw14635473669698735251 : True := trivial
theorem main.tw14646587721710459877 : True := trivial
theorem main.tw14662554035588321541 : True := trivial
theorem main.tw14672674291997333471 : True := trivial
theorem main.tw14722489848711283861 : True := trivial
theorem main.tw14759895335926876869 : True := trivial
theorem main.tw14771111431291430275 : True := trivial
theorem main.tw14793117695081215449 : True := trivial
theorem main.tw14909365282108701170 : True := trivial
theorem main.tw15017983477296125989 : True := trivial
theorem main.tw1504049600530537962 : True := trivial
theorem main.tw15079240505294077160 : True := trivial
theorem main.tw15109750227778091905 : True := trivial
theorem main.tw15131278010643852716 : True := trivial
theorem main.tw15270170921892066516 : True := trivial
theorem main.tw15303317825217679618 : True := trivial
theorem main.tw15365013842991253249 : True := trivial
theorem main.tw15465920861327815835 : True := trivial
theorem main.tw15467891735981029475 : True := trivial
theorem main.tw15484803683358725696 : True := trivial
theorem main.tw15485851114877660061 : True := trivial
theorem main.tw15491723280356408159 : True := trivial
theorem main.tw15554039934745177238 : True := trivial
theorem main.tw15595112118272840620 : True := trivial
theorem main.tw15624239662980076321 : True := trivial
theorem main.tw15643365686152983790 : True := trivial
theorem main.tw15734200111481486640 : True := trivial
theorem main.tw15734660467963936456 : True := trivial
theorem main.tw15768048840197415361 : True := trivial
theorem main.tw15803610866087392283 : True := trivial
theorem main.tw1587290215689348708 : True := trivial
theorem main.tw15984706205718930553 : True := trivial
theorem main.tw16008457594558532635 : True := trivial
theorem main.tw16035907590883218939 : True := trivial
theorem main.tw16046730324260685337 : True := trivial
theorem main.tw16049902774474827687 : True := trivial
theorem main.tw16102231251864390963 : True := trivial
theorem main.tw16136984950599521427 : True := trivial
theorem main.tw16138396744621940715 : True := trivial
theorem main.tw16153842264607907944 : True := trivial
theorem main.tw1615956725737779560 : True := trivial
theorem main.tw16187894506366716058 : True := trivial
theorem main.tw16193401482309157537 : True := trivial
theorem main.tw16251939892948500945 : True := trivial
theorem main.tw1632041292262086317 : True := trivial
theorem main.tw16320729459185622934 : True := trivial
theorem main.tw16356685582667847594 : True := trivial
theorem main.tw16411370214107742406 : True := trivial
theorem main.tw16480584520131690045 : True := trivial
theorem main.tw16519101796099990279 : True := trivial
theorem main.tw16572128252103988241 : True := trivial
theorem main.tw16641786646906312760 : True := trivial
theorem main.tw16656740534632174751 : True := trivial
theorem main.tw16721930046160240684 : True := trivial
theorem main.tw1677766988990989824 : True := trivial
theorem main.tw16778611742570070204 : True := trivial
theorem main.tw1678875084529416142 : True := trivial
theorem main.tw16798622893749714585 : True := trivial
theorem main.tw16819838333489098493 : True := trivial
theorem main.tw16826212616301561204 : True := trivial
theorem main.tw16832360635688203351 : True := trivial
theorem main.tw16922381011570985944 : True := trivial
theorem main.tw16923884221124529275 : True := trivial
theorem main.tw16950194794029067938 : True := trivial
theorem main.tw16952715711813285254 : True := trivial
theorem main.tw16965079339398995527 : True := trivial
theorem main.tw17057053908230417247 : True := trivial
theorem main.tw17091655785135471103 : True := trivial
theorem main.tw17146568849442343683 : True := trivial
theorem main.tw1714950047550659301 : True := trivial
theorem main.tw17223442867436993403 : True := trivial
theorem main.tw17236958762192778904 : True := trivial
theorem main.tw17272174723667511238 : True := trivial
theorem main.tw17292155258170135553 : True := trivial
theorem main.tw17297283025540448806 : True := trivial
theorem main.tw17336282652733537790 : True := trivial
theorem main.tw17353955331779342651 : True := trivial
theorem main.tw17402982504261768225 : True := trivial
theorem main.tw17450470499104002142 : True := trivial
theorem main.tw17477492558424962760 : True := trivial
theorem main.tw17510229520200029679 : True := trivial
theorem main.tw17561526911342447988 : True := trivial
theorem main.tw17679725944135375923 : True := trivial
theorem main.tw17695171507069755227 : True := trivial
theorem main.tw17715262827843222689 : True := trivial
theorem main.tw17725498274588495791 : True := trivial
theorem main.tw17737603089517620647 : True := trivial
theorem main.tw1777545030009416734 : True := trivial
theorem main.tw17876540633158874278 : True := trivial
theorem main.tw17958375852430007124 : True := trivial
theorem main.tw17974016328880235120 : True := trivial
theorem main.tw18134284020713443437 : True := trivial
theorem main.tw18218335207050127959 : True := trivial
theorem main.tw1826329307503635854 : True := trivial
theorem main.tw18284262389922463811 : True := trivial
theorem main.tw18315214858253571532 : True := trivial
theorem main.tw18325589031809861271 : True := trivial
theorem main.tw18332899500509843999 : True := trivial
theorem main.tw18403998269306519403 : True := trivial
theorem main.tw18431692314602308842 : True := trivial
theorem main.tw18442785490491869365 : True := trivial
theorem main.tw1850612553970854742 : True := trivial
theorem main.tw2007339730380871907 : True := trivial
theorem main.tw2019394398466159022 : True := trivial
theorem main.tw2075378649607365068 : True := trivial
theorem main.tw2190695567426971638 : True := trivial
theorem main.tw2195194259037543316 : True := trivial
theorem main.tw2225956059507018244 : True := trivial
theorem main.tw223528310411579522 : True := trivial
theorem main.tw2238316416991798583 : True := trivial
theorem main.tw2279707942289718827 : True := trivial
theorem main.tw2280167975263060670 : True := trivial
theorem main.tw2287757881348798766 : True := trivial
theorem main.tw2406621943657119228 : True := trivial
theorem main.tw2433702464844828792 : True := trivial
theorem main.tw2496676261509829067 : True := trivial
theorem main.tw2524017781993486291 : True := trivial
theorem main.tw2544328076492683441 : True := trivial
theorem main.tw2566753976717531306 : True := trivial
theorem main.tw2583023086579268501 : True := trivial
theorem main.tw2647654807098235363 : True := trivial
theorem main.tw2702614204127132176 : True := trivial
theorem main.tw2724176850512262202 : True := trivial
theorem main.tw2729793432009153956 : True := trivial
theorem main.tw2895952525429962455 : True := trivial
theorem main.tw2906824675625879941 : True := trivial
theorem main.tw2921621734765799159 : True := trivial
theorem main.tw2921958311620399285 : True := trivial
theorem main.tw302440914744352476 : True := trivial
theorem main.tw3045742163950154196 : True := trivial
theorem main.tw3137596982192898869 : True := trivial
theorem main.tw31828345220925962 : True := trivial
theorem main.tw3234112476842188716 : True := trivial
theorem main.tw3243575776822891974 : True := trivial
theorem main.tw3299218664060906527 : True := trivial
theorem main.tw330327031418712150 : True := trivial
theorem main.tw3343439749351644125 : True := trivial
theorem main.tw33456957511925785 : True := trivial
theorem main.tw341453280667917650 : True := trivial
theorem main.tw3454311308915712629 : True := trivial
theorem main.tw3466206800631347469 : True := trivial
theorem main.tw3491332818749588091 : True := trivial
theorem main.tw3532412968194664532 : True := trivial
theorem main.tw3543165509663861734 : True := trivial
theorem main.tw3549514262204291990 : True := trivial
theorem main.tw3557749057250611081 : True := trivial
theorem main.tw3583811862363856187 : True := trivial
theorem main.tw3626430660855392483 : True := trivial
theorem main.tw3674409469955505439 : True := trivial
theorem main.tw3796207824708393856 : True := trivial
theorem main.tw3829396358689915599 : True := trivial
theorem main.tw3848698983108048278 : True := trivial
theorem main.tw387501639795913443 : True := trivial
theorem main.tw3905226178654972811 : True := trivial
theorem main.tw3934531018447913466 : True := trivial
theorem main.tw3960113756560652017 : True := trivial
theorem main.tw4026956272090484662 : True := trivial
theorem main.tw4038153913678941442 : True := trivial
theorem main.tw4039676971129161736 : True := trivial
theorem main.tw4044139247061151142 : True := trivial
theorem main.tw4072190877284726289 : True := trivial
theorem main.tw4189750870438640210 : True := trivial
theorem main.tw4297412468100583042 : True := trivial
theorem main.tw4324958949535026087 : True := trivial
theorem main.tw4365514962571936147 : True := trivial
theorem main.tw4452170602077327944 : True := trivial
theorem main.tw4475767826048309731 : True := trivial
theorem main.tw4500915450034043215 : True := trivial
theorem main.tw451873465583785326 : True := trivial
theorem main.tw452746233719593009 : True := trivial
theorem main.tw4536570234885838379 : True := trivial
theorem main.tw4544244032028310869 : True := trivial
theorem main.tw4573282807186111410 : True := trivial
theorem main.tw4605139254293405059 : True := trivial
theorem main.tw4637267157515435788 : True := trivial
theorem main.tw4650958065196391918 : True := trivial
theorem main.tw4681395471914393968 : True := trivial
theorem main.tw4775608329324902142 : True := trivial
theorem main.tw4839478117068044826 : True := trivial
theorem main.tw4900431672193113347 : True := trivial
theorem main.tw4990475226369331113 : True := trivial
theorem main.tw5061512775090418087 : True := trivial
theorem main.tw5084117380071580128 : True := trivial
theorem main.tw5102693214775723256 : True := trivial
theorem main.tw5127751686995613262 : True := trivial
theorem main.tw5160751907100791332 : True := trivial
theorem main.tw5203219222101121401 : True := trivial
theorem main.tw52199770228462824 : True := trivial
theorem main.tw5240536507193477226 : True := trivial
theorem main.tw5240779543111244032 : True := trivial
theorem main.tw5243159528196176124 : True := trivial
theorem main.tw5372645768047454471 : True := trivial
theorem main.tw5396188567872606041 : True := trivial
theorem main.tw5400957986263281647 : True := trivial
theorem main.tw5418533224930618480 : True := trivial
theorem main.tw5473700226181020891 : True := trivial
theorem main.tw5518243967957118194 : True := trivial
theorem main.tw5532463470591059822 : True := trivial
theorem main.tw5571399437266216444 : True := trivial
theorem main.tw5585478044538960755 : True := trivial
theorem main.tw5613160597433933154 : True := trivial
theorem main.tw5649967823195072380 : True := trivial
theorem main.tw5665735395497279834 : True := trivial
theorem main.tw5995161000843957690 : True := trivial
theorem main.tw6044114016751833949 : True := trivial
theorem main.tw6053611964639427726 : True := trivial
theorem main.tw6075091234017535682 : True := trivial
theorem main.tw6112859857366181021 : True := trivial
theorem main.tw6222487380544312443 : True := trivial
theorem main.tw6334894449686545209 : True := trivial
theorem main.tw6361450105264607166 : True := trivial
theorem main.tw6379557931619253226 : True := trivial
theorem main.tw6385024630547198690 : True := trivial
theorem main.tw6418098437765475518 : True := trivial
theorem main.tw6449824600675878752 : True := trivial
theorem main.tw6508729118710982530 : True := trivial
theorem main.tw6511744376749373798 : True := trivial
theorem main.tw6541472054586571296 : True := trivial
theorem main.tw6557543464795787104 : True := trivial
theorem main.tw65644731488775911 : True := trivial
theorem main.tw6635558491612396129 : True := trivial
theorem main.tw6655696309031964122 : True := trivial
theorem main.tw6660377722381337597 : True := trivial
theorem main.tw6696893160125735727 : True := trivial
theorem main.tw6697339332421208802 : True := trivial
theorem main.tw6741292078354696603 : True := trivial
theorem main.tw6801380410627298636 : True := trivial
theorem main.tw6862492499505807319 : True := trivial
theorem main.tw6877560268529008848 : True := trivial
theorem main.tw6886502059237256666 : True := trivial
theorem main.tw7083192437325867461 : True := trivial
theorem main.tw7113585516715319716 : True := trivial
theorem main.tw7153082081811710619 : True := trivial
theorem main.tw7173623326730630234 : True := trivial
theorem main.tw7186131708394509389 : True := trivial
theorem main.tw7214478077546791972 : True := trivial
theorem main.tw7221758910455160077 : True := trivial
theorem main.tw7235775444256392728 : True := trivial
theorem main.tw7237411587787531456 : True := trivial
theorem main.tw7293298908176781663 : True := trivial
theorem main.tw7308723440029596264 : True := trivial
theorem main.tw73751810991705359 : True := trivial
theorem main.tw7439787175107056256 : True := trivial
theorem main.tw750237026923860459 : True := trivial
theorem main.tw7590696779544312186 : True := trivial
theorem main.tw765107192605250810 : True := trivial
theorem main.tw7698036289167662538 : True := trivial
theorem main.tw7699798408344515789 : True := trivial
theorem main.tw7751025194823839400 : True := trivial
theorem main.tw7846812961960373227 : True := trivial
theorem main.tw7875838824674609581 : True := trivial
theorem main.tw8118072479153026202 : True := trivial
theorem main.tw8207831470162742035 : True := trivial
theorem main.tw8211959896082780389 : True := trivial
theorem main.tw8228058824784995430 : True := trivial
theorem main.tw832900586485598795 : True := trivial
theorem main.tw834873547066669988 : True := trivial
theorem main.tw8440099810896429113 : True := trivial
theorem main.tw8466321980469482115 : True := trivial
theorem main.tw8467378866343419333 : True := trivial
theorem main.tw8475525182357872103 : True := trivial
theorem main.tw8478376212529829071 : True := trivial
theorem main.tw8557395850702784662 : True := trivial
theorem main.tw8610315236036937458 : True := trivial
theorem main.tw8652556701797213591 : True := trivial
theorem main.tw8663697691656813868 : True := trivial
theorem main.tw8729708805864041840 : True := trivial
theorem main.tw876370689414184589 : True := trivial
theorem main.tw8905464785575363620 : True := trivial
theorem main.tw8936924024312948488 : True := trivial
theorem main.tw8947760058931562597 : True := trivial
theorem main.tw9069182735580402390 : True := trivial
theorem main.tw9155575984036265788 : True := trivial
theorem main.tw9265829497004654079 : True := trivial
theorem main.tw9268297945177815525 : True := trivial
theorem main.tw9274054859765456524 : True := trivial
theorem main.tw9302470337196694018 : True := trivial
theorem main.tw9360745474812902239 : True := trivial
theorem main.tw9361300454564663673 : True := trivial
theorem main.tw9376575566392132001 : True := trivial
theorem main.tw9381277316556691805 : True := trivial
theorem main.tw9498315638749924794 : True := trivial
theorem main.tw9508770018378322450 : True := trivial
theorem main.tw9512817274939609580 : True := trivial
theorem main.tw9557352009045844224 : True := trivial
theorem main.tw9561784451562097942 : True := trivial
theorem main.tw9563168847844234846 : True := trivial
theorem main.tw962032349192862916 : True := trivial
theorem main.tw9656510801202774680 : True := trivial
theorem main.tw9670510015898674028 : True := trivial
theorem main.tw9681375758050803366 : True := trivial
theorem main.tw9682133043923132273 : True := trivial
theorem main.tw9840939614602229412 : True := trivial
theorem main.tw9848185148710128376 : True := trivial
theorem main.tw9899280244813981974 : True := trivial
theorem main.tw9925469786538053656 : True := trivial
theorem main.tw9976160756891316704 : True := trivial
set_option Elab.async true in
theorem main : PySem.Challenge.rw_xm0733_01.Holds := by
  w_on
  o_law
  k_head
  (case hw => w_witness2)
  have ek : _root_.Mine.main.heap_1_39 = KF := by kernel_rfl
  have ev : _root_.Mine.main.view_1_40 = qv := by kernel_rfl
  intro w s₀ s₁ mg mb G Y
  have Y' : InK KF w s₁.heap := ek ▸ (show InK _root_.Mine.main.heap_1_39 w s₁.heap from Y)
  rw [ev] at G
  exact law_walk w s₀ s₁ mg mb G Y'
end Mine
theorem PySem.Challenge.cw_xm0733_01_holds : PySem.Challenge.rw_xm0733_01.Holds := by
  exact Mine.main
