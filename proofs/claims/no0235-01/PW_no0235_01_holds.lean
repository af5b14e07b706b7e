import PyProof.Rows.All
import Wide.All
import OpenK.AllK
import Wide.FinOn
import Lean
import PySem.Challenge.RW_no0235_01
open PySem PySem.W PySem.Spec PySem.Calls PyProof.Rows PyProof.V
set_option Elab.async false
set_option maxRecDepth 100000
set_option genSizeOf false
set_option genInjectivity false
namespace Mine
local macro_rules | `(tactic| walk_at $s:str) => `(tactic| k_extra $s)
def bodyOf : Stmt → List Stmt
  | .For _ _ b _ _ => b
  | .FunctionDef _ _ b _ _ _ _ _ _ _ => b
  | .ClassDef _ _ _ b _ _ _ _ _ _ _ => b
  | _ => []
def argsOf : Stmt → Arguments
  | .FunctionDef _ a _ _ _ _ _ _ _ _ => a
  | _ => ⟨[], [], none, [], [], none, []⟩
def scopeOf : Stmt → Option Scope
  | .FunctionDef _ _ _ _ _ _ c _ _ _ => some c
  | _ => none
def scopeD : Stmt → Scope
  | .FunctionDef _ _ _ _ _ _ c _ _ _ => c
  | _ => PySem.Challenge.pw_no0235_01.main.scope
def atS (l : List Stmt) (i : Nat) : Stmt := l.getD i (.Pass ⟨0, 0, 0, 0⟩)
def topS (i : Nat) : Stmt := atS PySem.Challenge.pw_no0235_01.main.body i
/-- tells which of the row's defs fill the holes -/
def ForDefs (_ : List (List Stmt × Arguments × Scope)) : Type := PySem.Params → PySem.W.Frag
def ForView (_ : List Stmt) : Type := PySem.Program
set_option maxHeartbeats 4000000 in
/-- the written part of the heap behind the top -/
noncomputable def K0 : PySem.Params → PySem.W.Frag := by
  refine' ((?f : ∀ (h28 : Stmt) (t28 : List Stmt) (p28x0 : List Arg) (p28x1 : List Arg) (p28x2 : Option Arg) (p28x3 : List Arg) (p28x4 : List (Option PySem.Expr)) (p28x5 : Option Arg) (p28x6 : List PySem.Expr) (s28x0 : ScopeKind) (s28x1 : List (Str × NameKind)) (s28x2 : Bool) (s28x3 : Bool) (s28x4 : List (Str × Const)) (h48 : Stmt) (t48 : List Stmt) (p48x0 : List Arg) (p48x1 : List Arg) (p48x2 : Option Arg) (p48x3 : List Arg) (p48x4 : List (Option PySem.Expr)) (p48x5 : Option Arg) (p48x6 : List PySem.Expr) (s48x0 : ScopeKind) (s48x1 : List (Str × NameKind)) (s48x2 : Bool) (s48x3 : Bool) (s48x4 : List (Str × Const)) (h60 : Stmt) (t60 : List Stmt) (p60x0 : List Arg) (p60x1 : List Arg) (p60x2 : Option Arg) (p60x3 : List Arg) (p60x4 : List (Option PySem.Expr)) (p60x5 : Option Arg) (p60x6 : List PySem.Expr) (s60x0 : ScopeKind) (s60x1 : List (Str × NameKind)) (s60x2 : Bool) (s60x3 : Bool) (s60x4 : List (Str × Const)) (h67 : Stmt) (t67 : List Stmt) (p67x0 : List Arg) (p67x1 : List Arg) (p67x2 : Option Arg) (p67x3 : List Arg) (p67x4 : List (Option PySem.Expr)) (p67x5 : Option Arg) (p67x6 : List PySem.Expr) (s67x0 : ScopeKind) (s67x1 : List (Str × NameKind)) (s67x2 : Bool) (s67x3 : Bool) (s67x4 : List (Str × Const)) (h82 : Stmt) (t82 : List Stmt) (p82x0 : List Arg) (p82x1 : List Arg) (p82x2 : Option Arg) (p82x3 : List Arg) (p82x4 : List (Option PySem.Expr)) (p82x5 : Option Arg) (p82x6 : List PySem.Expr) (s82x0 : ScopeKind) (s82x1 : List (Str × NameKind)) (s82x2 : Bool) (s82x3 : Bool) (s82x4 : List (Str × Const)) (h103 : Stmt) (t103 : List Stmt) (p103x0 : List Arg) (p103x1 : List Arg) (p103x2 : Option Arg) (p103x3 : List Arg) (p103x4 : List (Option PySem.Expr)) (p103x5 : Option Arg) (p103x6 : List PySem.Expr) (s103x0 : ScopeKind) (s103x1 : List (Str × NameKind)) (s103x2 : Bool) (s103x3 : Bool) (s103x4 : List (Str × Const)) (h117 : Stmt) (t117 : List Stmt) (p117x0 : List Arg) (p117x1 : List Arg) (p117x2 : Option Arg) (p117x3 : List Arg) (p117x4 : List (Option PySem.Expr)) (p117x5 : Option Arg) (p117x6 : List PySem.Expr) (s117x0 : ScopeKind) (s117x1 : List (Str × NameKind)) (s117x2 : Bool) (s117x3 : Bool) (s117x4 : List (Str × Const)) (h124 : Stmt) (t124 : List Stmt) (p124x0 : List Arg) (p124x1 : List Arg) (p124x2 : Option Arg) (p124x3 : List Arg) (p124x4 : List (Option PySem.Expr)) (p124x5 : Option Arg) (p124x6 : List PySem.Expr) (s124x0 : ScopeKind) (s124x1 : List (Str × NameKind)) (s124x2 : Bool) (s124x3 : Bool) (s124x4 : List (Str × Const)) (h131 : Stmt) (t131 : List Stmt) (p131x0 : List Arg) (p131x1 : List Arg) (p131x2 : Option Arg) (p131x3 : List Arg) (p131x4 : List (Option PySem.Expr)) (p131x5 : Option Arg) (p131x6 : List PySem.Expr) (s131x0 : ScopeKind) (s131x1 : List (Str × NameKind)) (s131x2 : Bool) (s131x3 : Bool) (s131x4 : List (Str × Const)) (h138 : Stmt) (t138 : List Stmt) (p138x0 : List Arg) (p138x1 : List Arg) (p138x2 : Option Arg) (p138x3 : List Arg) (p138x4 : List (Option PySem.Expr)) (p138x5 : Option Arg) (p138x6 : List PySem.Expr) (s138x0 : ScopeKind) (s138x1 : List (Str × NameKind)) (s138x2 : Bool) (s138x3 : Bool) (s138x4 : List (Str × Const)) (h145 : Stmt) (t145 : List Stmt) (p145x0 : List Arg) (p145x1 : List Arg) (p145x2 : Option Arg) (p145x3 : List Arg) (p145x4 : List (Option PySem.Expr)) (p145x5 : Option Arg) (p145x6 : List PySem.Expr) (s145x0 : ScopeKind) (s145x1 : List (Str × NameKind)) (s145x2 : Bool) (s145x3 : Bool) (s145x4 : List (Str × Const)) (h152 : Stmt) (t152 : List Stmt) (p152x0 : List Arg) (p152x1 : List Arg) (p152x2 : Option Arg) (p152x3 : List Arg) (p152x4 : List (Option PySem.Expr)) (p152x5 : Option Arg) (p152x6 : List PySem.Expr) (s152x0 : ScopeKind) (s152x1 : List (Str × NameKind)) (s152x2 : Bool) (s152x3 : Bool) (s152x4 : List (Str × Const)) (h159 : Stmt) (t159 : List Stmt) (p159x0 : List Arg) (p159x1 : List Arg) (p159x2 : Option Arg) (p159x3 : List Arg) (p159x4 : List (Option PySem.Expr)) (p159x5 : Option Arg) (p159x6 : List PySem.Expr) (s159x0 : ScopeKind) (s159x1 : List (Str × NameKind)) (s159x2 : Bool) (s159x3 : Bool) (s159x4 : List (Str × Const)) (h166 : Stmt) (t166 : List Stmt) (p166x0 : List Arg) (p166x1 : List Arg) (p166x2 : Option Arg) (p166x3 : List Arg) (p166x4 : List (Option PySem.Expr)) (p166x5 : Option Arg) (p166x6 : List PySem.Expr) (s166x0 : ScopeKind) (s166x1 : List (Str × NameKind)) (s166x2 : Bool) (s166x3 : Bool) (s166x4 : List (Str × Const)) (h173 : Stmt) (t173 : List Stmt) (p173x0 : List Arg) (p173x1 : List Arg) (p173x2 : Option Arg) (p173x3 : List Arg) (p173x4 : List (Option PySem.Expr)) (p173x5 : Option Arg) (p173x6 : List PySem.Expr) (s173x0 : ScopeKind) (s173x1 : List (Str × NameKind)) (s173x2 : Bool) (s173x3 : Bool) (s173x4 : List (Str × Const)) (h180 : Stmt) (t180 : List Stmt) (p180x0 : List Arg) (p180x1 : List Arg) (p180x2 : Option Arg) (p180x3 : List Arg) (p180x4 : List (Option PySem.Expr)) (p180x5 : Option Arg) (p180x6 : List PySem.Expr) (s180x0 : ScopeKind) (s180x1 : List (Str × NameKind)) (s180x2 : Bool) (s180x3 : Bool) (s180x4 : List (Str × Const)) (h187 : Stmt) (t187 : List Stmt) (p187x0 : List Arg) (p187x1 : List Arg) (p187x2 : Option Arg) (p187x3 : List Arg) (p187x4 : List (Option PySem.Expr)) (p187x5 : Option Arg) (p187x6 : List PySem.Expr) (s187x0 : ScopeKind) (s187x1 : List (Str × NameKind)) (s187x2 : Bool) (s187x3 : Bool) (s187x4 : List (Str × Const)) (h194 : Stmt) (t194 : List Stmt) (p194x0 : List Arg) (p194x1 : List Arg) (p194x2 : Option Arg) (p194x3 : List Arg) (p194x4 : List (Option PySem.Expr)) (p194x5 : Option Arg) (p194x6 : List PySem.Expr) (s194x0 : ScopeKind) (s194x1 : List (Str × NameKind)) (s194x2 : Bool) (s194x3 : Bool) (s194x4 : List (Str × Const)) (h201 : Stmt) (t201 : List Stmt) (p201x0 : List Arg) (p201x1 : List Arg) (p201x2 : Option Arg) (p201x3 : List Arg) (p201x4 : List (Option PySem.Expr)) (p201x5 : Option Arg) (p201x6 : List PySem.Expr) (s201x0 : ScopeKind) (s201x1 : List (Str × NameKind)) (s201x2 : Bool) (s201x3 : Bool) (s201x4 : List (Str × Const)) (h208 : Stmt) (t208 : List Stmt) (p208x0 : List Arg) (p208x1 : List Arg) (p208x2 : Option Arg) (p208x3 : List Arg) (p208x4 : List (Option PySem.Expr)) (p208x5 : Option Arg) (p208x6 : List PySem.Expr) (s208x0 : ScopeKind) (s208x1 : List (Str × NameKind)) (s208x2 : Bool) (s208x3 : Bool) (s208x4 : List (Str × Const)) (h215 : Stmt) (t215 : List Stmt) (p215x0 : List Arg) (p215x1 : List Arg) (p215x2 : Option Arg) (p215x3 : List Arg) (p215x4 : List (Option PySem.Expr)) (p215x5 : Option Arg) (p215x6 : List PySem.Expr) (s215x0 : ScopeKind) (s215x1 : List (Str × NameKind)) (s215x2 : Bool) (s215x3 : Bool) (s215x4 : List (Str × Const)) (h222 : Stmt) (t222 : List Stmt) (p222x0 : List Arg) (p222x1 : List Arg) (p222x2 : Option Arg) (p222x3 : List Arg) (p222x4 : List (Option PySem.Expr)) (p222x5 : Option Arg) (p222x6 : List PySem.Expr) (s222x0 : ScopeKind) (s222x1 : List (Str × NameKind)) (s222x2 : Bool) (s222x3 : Bool) (s222x4 : List (Str × Const)) (h227 : Stmt) (t227 : List Stmt) (p227x0 : List Arg) (p227x1 : List Arg) (p227x2 : Option Arg) (p227x3 : List Arg) (p227x4 : List (Option PySem.Expr)) (p227x5 : Option Arg) (p227x6 : List PySem.Expr) (s227x0 : ScopeKind) (s227x1 : List (Str × NameKind)) (s227x2 : Bool) (s227x3 : Bool) (s227x4 : List (Str × Const)), ForDefs [(h28 :: t28, ⟨p28x0, p28x1, p28x2, p28x3, p28x4, p28x5, p28x6⟩, ⟨s28x0, s28x1, s28x2, s28x3, s28x4⟩), (h48 :: t48, ⟨p48x0, p48x1, p48x2, p48x3, p48x4, p48x5, p48x6⟩, ⟨s48x0, s48x1, s48x2, s48x3, s48x4⟩), (h60 :: t60, ⟨p60x0, p60x1, p60x2, p60x3, p60x4, p60x5, p60x6⟩, ⟨s60x0, s60x1, s60x2, s60x3, s60x4⟩), (h67 :: t67, ⟨p67x0, p67x1, p67x2, p67x3, p67x4, p67x5, p67x6⟩, ⟨s67x0, s67x1, s67x2, s67x3, s67x4⟩), (h82 :: t82, ⟨p82x0, p82x1, p82x2, p82x3, p82x4, p82x5, p82x6⟩, ⟨s82x0, s82x1, s82x2, s82x3, s82x4⟩), (h103 :: t103, ⟨p103x0, p103x1, p103x2, p103x3, p103x4, p103x5, p103x6⟩, ⟨s103x0, s103x1, s103x2, s103x3, s103x4⟩), (h117 :: t117, ⟨p117x0, p117x1, p117x2, p117x3, p117x4, p117x5, p117x6⟩, ⟨s117x0, s117x1, s117x2, s117x3, s117x4⟩), (h124 :: t124, ⟨p124x0, p124x1, p124x2, p124x3, p124x4, p124x5, p124x6⟩, ⟨s124x0, s124x1, s124x2, s124x3, s124x4⟩), (h131 :: t131, ⟨p131x0, p131x1, p131x2, p131x3, p131x4, p131x5, p131x6⟩, ⟨s131x0, s131x1, s131x2, s131x3, s131x4⟩), (h138 :: t138, ⟨p138x0, p138x1, p138x2, p138x3, p138x4, p138x5, p138x6⟩, ⟨s138x0, s138x1, s138x2, s138x3, s138x4⟩), (h145 :: t145, ⟨p145x0, p145x1, p145x2, p145x3, p145x4, p145x5, p145x6⟩, ⟨s145x0, s145x1, s145x2, s145x3, s145x4⟩), (h152 :: t152, ⟨p152x0, p152x1, p152x2, p152x3, p152x4, p152x5, p152x6⟩, ⟨s152x0, s152x1, s152x2, s152x3, s152x4⟩), (h159 :: t159, ⟨p159x0, p159x1, p159x2, p159x3, p159x4, p159x5, p159x6⟩, ⟨s159x0, s159x1, s159x2, s159x3, s159x4⟩), (h166 :: t166, ⟨p166x0, p166x1, p166x2, p166x3, p166x4, p166x5, p166x6⟩, ⟨s166x0, s166x1, s166x2, s166x3, s166x4⟩), (h173 :: t173, ⟨p173x0, p173x1, p173x2, p173x3, p173x4, p173x5, p173x6⟩, ⟨s173x0, s173x1, s173x2, s173x3, s173x4⟩), (h180 :: t180, ⟨p180x0, p180x1, p180x2, p180x3, p180x4, p180x5, p180x6⟩, ⟨s180x0, s180x1, s180x2, s180x3, s180x4⟩), (h187 :: t187, ⟨p187x0, p187x1, p187x2, p187x3, p187x4, p187x5, p187x6⟩, ⟨s187x0, s187x1, s187x2, s187x3, s187x4⟩), (h194 :: t194, ⟨p194x0, p194x1, p194x2, p194x3, p194x4, p194x5, p194x6⟩, ⟨s194x0, s194x1, s194x2, s194x3, s194x4⟩), (h201 :: t201, ⟨p201x0, p201x1, p201x2, p201x3, p201x4, p201x5, p201x6⟩, ⟨s201x0, s201x1, s201x2, s201x3, s201x4⟩), (h208 :: t208, ⟨p208x0, p208x1, p208x2, p208x3, p208x4, p208x5, p208x6⟩, ⟨s208x0, s208x1, s208x2, s208x3, s208x4⟩), (h215 :: t215, ⟨p215x0, p215x1, p215x2, p215x3, p215x4, p215x5, p215x6⟩, ⟨s215x0, s215x1, s215x2, s215x3, s215x4⟩), (h222 :: t222, ⟨p222x0, p222x1, p222x2, p222x3, p222x4, p222x5, p222x6⟩, ⟨s222x0, s222x1, s222x2, s222x3, s222x4⟩), (h227 :: t227, ⟨p227x0, p227x1, p227x2, p227x3, p227x4, p227x5, p227x6⟩, ⟨s227x0, s227x1, s227x2, s227x3, s227x4⟩)]) _ _ _ _ _ _ _ _ _ _ _ _ _ _ _ _ _ _ _ _ _ _ _ _ _ _ _ _ _ _ _ _ _ _ _ _ _ _ _ _ _ _ _ _ _ _ _ _ _ _ _ _ _ _ _ _ _ _ _ _ _ _ _ _ _ _ _ _ _ _ _ _ _ _ _ _ _ _ _ _ _ _ _ _ _ _ _ _ _ _ _ _ _ _ _ _ _ _ _ _ _ _ _ _ _ _ _ _ _ _ _ _ _ _ _ _ _ _ _ _ _ _ _ _ _ _ _ _ _ _ _ _ _ _ _ _ _ _ _ _ _ _ _ _ _ _ _ _ _ _ _ _ _ _ _ _ _ _ _ _ _ _ _ _ _ _ _ _ _ _ _ _ _ _ _ _ _ _ _ _ _ _ _ _ _ _ _ _ _ _ _ _ _ _ _ _ _ _ _ _ _ _ _ _ _ _ _ _ _ _ _ _ _ _ _ _ _ _ _ _ _ _ _ _ _ _ _ _ _ _ _ _ _ _ _ _ _ _ _ _ _ _ _ _ _ _ _ _ _ _ _ _ _ _ _ _ _ _ _ _ _ _ _ _ _ _ _ _ _ _ _ _ _ _ _ _ _ _ _ _ _ _ _ _ _ _ _ _ _ _ _ _ _ _ _ _ _ _ _ _ _ _ _ _ _ _ _ _ _ _ _ _ _ _ _ _ _ _ _ _ _ _ : ForDefs [(bodyOf (atS (bodyOf (topS 1)) 0), argsOf (atS (bodyOf (topS 1)) 0), scopeD (atS (bodyOf (topS 1)) 0)), (bodyOf (atS (bodyOf (topS 2)) 0), argsOf (atS (bodyOf (topS 2)) 0), scopeD (atS (bodyOf (topS 2)) 0)), (bodyOf (topS 6), argsOf (topS 6), scopeD (topS 6)), (bodyOf (topS 7), argsOf (topS 7), scopeD (topS 7)), (bodyOf (atS (bodyOf (topS 9)) 0), argsOf (atS (bodyOf (topS 9)) 0), scopeD (atS (bodyOf (topS 9)) 0)), (bodyOf (atS (bodyOf (topS 14)) 0), argsOf (atS (bodyOf (topS 14)) 0), scopeD (atS (bodyOf (topS 14)) 0)), (bodyOf (topS 15), argsOf (topS 15), scopeD (topS 15)), (bodyOf (topS 16), argsOf (topS 16), scopeD (topS 16)), (bodyOf (topS 17), argsOf (topS 17), scopeD (topS 17)), (bodyOf (topS 18), argsOf (topS 18), scopeD (topS 18)), (bodyOf (topS 19), argsOf (topS 19), scopeD (topS 19)), (bodyOf (topS 20), argsOf (topS 20), scopeD (topS 20)), (bodyOf (topS 21), argsOf (topS 21), scopeD (topS 21)), (bodyOf (topS 22), argsOf (topS 22), scopeD (topS 22)), (bodyOf (topS 23), argsOf (topS 23), scopeD (topS 23)), (bodyOf (topS 24), argsOf (topS 24), scopeD (topS 24)), (bodyOf (topS 25), argsOf (topS 25), scopeD (topS 25)), (bodyOf (topS 28), argsOf (topS 28), scopeD (topS 28)), (bodyOf (topS 29), argsOf (topS 29), scopeD (topS 29)), (bodyOf (topS 30), argsOf (topS 30), scopeD (topS 30)), (bodyOf (topS 31), argsOf (topS 31), scopeD (topS 31)), (bodyOf (topS 32), argsOf (topS 32), scopeD (topS 32)), (bodyOf (topS 33), argsOf (topS 33), scopeD (topS 33))])
  exact fun h28 t28 p28x0 p28x1 p28x2 p28x3 p28x4 p28x5 p28x6 s28x0 s28x1 s28x2 s28x3 s28x4 h48 t48 p48x0 p48x1 p48x2 p48x3 p48x4 p48x5 p48x6 s48x0 s48x1 s48x2 s48x3 s48x4 h60 t60 p60x0 p60x1 p60x2 p60x3 p60x4 p60x5 p60x6 s60x0 s60x1 s60x2 s60x3 s60x4 h67 t67 p67x0 p67x1 p67x2 p67x3 p67x4 p67x5 p67x6 s67x0 s67x1 s67x2 s67x3 s67x4 h82 t82 p82x0 p82x1 p82x2 p82x3 p82x4 p82x5 p82x6 s82x0 s82x1 s82x2 s82x3 s82x4 h103 t103 p103x0 p103x1 p103x2 p103x3 p103x4 p103x5 p103x6 s103x0 s103x1 s103x2 s103x3 s103x4 h117 t117 p117x0 p117x1 p117x2 p117x3 p117x4 p117x5 p117x6 s117x0 s117x1 s117x2 s117x3 s117x4 h124 t124 p124x0 p124x1 p124x2 p124x3 p124x4 p124x5 p124x6 s124x0 s124x1 s124x2 s124x3 s124x4 h131 t131 p131x0 p131x1 p131x2 p131x3 p131x4 p131x5 p131x6 s131x0 s131x1 s131x2 s131x3 s131x4 h138 t138 p138x0 p138x1 p138x2 p138x3 p138x4 p138x5 p138x6 s138x0 s138x1 s138x2 s138x3 s138x4 h145 t145 p145x0 p145x1 p145x2 p145x3 p145x4 p145x5 p145x6 s145x0 s145x1 s145x2 s145x3 s145x4 h152 t152 p152x0 p152x1 p152x2 p152x3 p152x4 p152x5 p152x6 s152x0 s152x1 s152x2 s152x3 s152x4 h159 t159 p159x0 p159x1 p159x2 p159x3 p159x4 p159x5 p159x6 s159x0 s159x1 s159x2 s159x3 s159x4 h166 t166 p166x0 p166x1 p166x2 p166x3 p166x4 p166x5 p166x6 s166x0 s166x1 s166x2 s166x3 s166x4 h173 t173 p173x0 p173x1 p173x2 p173x3 p173x4 p173x5 p173x6 s173x0 s173x1 s173x2 s173x3 s173x4 h180 t180 p180x0 p180x1 p180x2 p180x3 p180x4 p180x5 p180x6 s180x0 s180x1 s180x2 s180x3 s180x4 h187 t187 p187x0 p187x1 p187x2 p187x3 p187x4 p187x5 p187x6 s187x0 s187x1 s187x2 s187x3 s187x4 h194 t194 p194x0 p194x1 p194x2 p194x3 p194x4 p194x5 p194x6 s194x0 s194x1 s194x2 s194x3 s194x4 h201 t201 p201x0 p201x1 p201x2 p201x3 p201x4 p201x5 p201x6 s201x0 s201x1 s201x2 s201x3 s201x4 h208 t208 p208x0 p208x1 p208x2 p208x3 p208x4 p208x5 p208x6 s208x0 s208x1 s208x2 s208x3 s208x4 h215 t215 p215x0 p215x1 p215x2 p215x3 p215x4 p215x5 p215x6 s215x0 s215x1 s215x2 s215x3 s215x4 h222 t222 p222x0 p222x1 p222x2 p222x3 p222x4 p222x5 p222x6 s222x0 s222x1 s222x2 s222x3 s222x4 h227 t227 p227x0 p227x1 p227x2 p227x3 p227x4 p227x5 p227x6 s227x0 s227x1 s227x2 s227x3 s227x4 P =>
    (nat_lit 2, ({ cls := PySem.Value.none, data := PySem.Data.dict #[{ hash := PySem.PyData.keyHash P (PySem.Str.ofString "type.__subclasses__.Exception.0"), key := PySem.Value.str (PySem.Str.ofString "type.__subclasses__.Exception.0") 214, val := PySem.Value.int 31 0 }, { hash := PySem.PyData.keyHash P (PySem.Str.ofString "type.__subclasses__.Exception.n"), key := PySem.Value.str (PySem.Str.ofString "type.__subclasses__.Exception.n") 215, val := PySem.Value.int 1 0 }] 2 } : PySem.Obj)) ::
    (nat_lit 3, ({ cls := PySem.Value.type "dict", data := PySem.Data.dict #[{ hash := PySem.PyData.keyHash P (PySem.Str.ofString "__name__"), key := PySem.Value.str (PySem.Str.ofString "__name__") 165, val := PySem.Value.str (PySem.Str.ofString "law_no0235_01") 473 }, { hash := PySem.PyData.keyHash P (PySem.Str.ofString "__doc__"), key := PySem.Value.str (PySem.Str.ofString "__doc__") 166, val := PySem.Value.none }, { hash := PySem.PyData.keyHash P (PySem.Str.ofString "__package__"), key := PySem.Value.str (PySem.Str.ofString "__package__") 167, val := PySem.Value.none }, { hash := PySem.PyData.keyHash P (PySem.Str.ofString "__loader__"), key := PySem.Value.str (PySem.Str.ofString "__loader__") 168, val := PySem.Value.builtin "__main__.__loader__#opaque" }, { hash := PySem.PyData.keyHash P (PySem.Str.ofString "__spec__"), key := PySem.Value.str (PySem.Str.ofString "__spec__") 169, val := PySem.Value.none }, { hash := PySem.PyData.keyHash P (PySem.Str.ofString "__annotations__"), key := PySem.Value.str (PySem.Str.ofString "__annotations__") 170, val := PySem.Value.ref 6 }, { hash := PySem.PyData.keyHash P (PySem.Str.ofString "__builtins__"), key := PySem.Value.str (PySem.Str.ofString "__builtins__") 171, val := PySem.Value.ref 4 }, { hash := PySem.PyData.keyHash P (PySem.Str.ofString "__file__"), key := PySem.Value.str (PySem.Str.ofString "__file__") 173, val := PySem.Value.str (PySem.Str.ofString "/claim/cut.py") 172 }, { hash := PySem.PyData.keyHash P (PySem.Str.ofString "__cached__"), key := PySem.Value.str (PySem.Str.ofString "__cached__") 174, val := PySem.Value.none }, { hash := PySem.PyData.keyHash P (PySem.Str.ofString "F77Error"), key := PySem.Value.str (PySem.Str.ofString "F77Error") 217, val := PySem.Value.ref 31 }, { hash := PySem.PyData.keyHash P (PySem.Str.ofString "SourceError"), key := PySem.Value.str (PySem.Str.ofString "SourceError") 243, val := PySem.Value.ref 51 }, { hash := PySem.PyData.keyHash P (PySem.Str.ofString "LABEL_WIDTH"), key := PySem.Value.str (PySem.Str.ofString "LABEL_WIDTH") 247, val := PySem.Value.int 5 246 }, { hash := PySem.PyData.keyHash P (PySem.Str.ofString "MARK"), key := PySem.Value.str (PySem.Str.ofString "MARK") 249, val := PySem.Value.str (PySem.Str.ofString "+") 248 }, { hash := PySem.PyData.keyHash P (PySem.Str.ofString "fixed_rows"), key := PySem.Value.str (PySem.Str.ofString "fixed_rows") 262, val := PySem.Value.ref 60 }, { hash := PySem.PyData.keyHash P (PySem.Str.ofString "list_rows"), key := PySem.Value.str (PySem.Str.ofString "list_rows") 273, val := PySem.Value.ref 67 }, { hash := PySem.PyData.keyHash P (PySem.Str.ofString "Limits"), key := PySem.Value.str (PySem.Str.ofString "Limits") 326, val := PySem.Value.ref 85 }, { hash := PySem.PyData.keyHash P (PySem.Str.ofString "LABEL_END"), key := PySem.Value.str (PySem.Str.ofString "LABEL_END") 330, val := PySem.Value.int 5 329 }, { hash := PySem.PyData.keyHash P (PySem.Str.ofString "BODY_AT"), key := PySem.Value.str (PySem.Str.ofString "BODY_AT") 332, val := PySem.Value.int 6 331 }, { hash := PySem.PyData.keyHash P (PySem.Str.ofString "DIGITS"), key := PySem.Value.str (PySem.Str.ofString "DIGITS") 334, val := PySem.Value.str (PySem.Str.ofString "0123456789") 333 }, { hash := PySem.PyData.keyHash P (PySem.Str.ofString "Card"), key := PySem.Value.str (PySem.Str.ofString "Card") 369, val := PySem.Value.ref 106 }, { hash := PySem.PyData.keyHash P (PySem.Str.ofString "cards_of"), key := PySem.Value.str (PySem.Str.ofString "cards_of") 379, val := PySem.Value.ref 117 }, { hash := PySem.PyData.keyHash P (PySem.Str.ofString "without_blanks"), key := PySem.Value.str (PySem.Str.ofString "without_blanks") 386, val := PySem.Value.ref 124 }, { hash := PySem.PyData.keyHash P (PySem.Str.ofString "is_comment"), key := PySem.Value.str (PySem.Str.ofString "is_comment") 394, val := PySem.Value.ref 131 }, { hash := PySem.PyData.keyHash P (PySem.Str.ofString "read_cards"), key := PySem.Value.str (PySem.Str.ofString "read_cards") 406, val := PySem.Value.ref 138 }, { hash := PySem.PyData.keyHash P (PySem.Str.ofString "is_continuation"), key := PySem.Value.str (PySem.Str.ofString "is_continuation") 413, val := PySem.Value.ref 145 }, { hash := PySem.PyData.keyHash P (PySem.Str.ofString "read_label"), key := PySem.Value.str (PySem.Str.ofString "read_label") 424, val := PySem.Value.ref 152 }, { hash := PySem.PyData.keyHash P (PySem.Str.ofString "padded"), key := PySem.Value.str (PySem.Str.ofString "padded") 432, val := PySem.Value.ref 159 }, { hash := PySem.PyData.keyHash P (PySem.Str.ofString "joined"), key := PySem.Value.str (PySem.Str.ofString "joined") 443, val := PySem.Value.ref 166 }, { hash := PySem.PyData.keyHash P (PySem.Str.ofString "check_continuation"), key := PySem.Value.str (PySem.Str.ofString "check_continuation") 452, val := PySem.Value.ref 173 }, { hash := PySem.PyData.keyHash P (PySem.Str.ofString "statements_of"), key := PySem.Value.str (PySem.Str.ofString "statements_of") 464, val := PySem.Value.ref 180 }, { hash := PySem.PyData.keyHash P (PySem.Str.ofString "read_statements"), key := PySem.Value.str (PySem.Str.ofString "read_statements") 472, val := PySem.Value.ref 187 }, { hash := PySem.PyData.keyHash P (PySem.Str.ofString "_law_signs"), key := PySem.Value.str (PySem.Str.ofString "_law_signs") 476, val := PySem.Value.str (PySem.Str.ofString "ABX 1'(),=* .Y") 475 }, { hash := PySem.PyData.keyHash P (PySem.Str.ofString "_law_remarks"), key := PySem.Value.str (PySem.Str.ofString "_law_remarks") 482, val := PySem.Value.ref 194 }, { hash := PySem.PyData.keyHash P (PySem.Str.ofString "_law_take"), key := PySem.Value.str (PySem.Str.ofString "_law_take") 491, val := PySem.Value.ref 201 }, { hash := PySem.PyData.keyHash P (PySem.Str.ofString "_law_text"), key := PySem.Value.str (PySem.Str.ofString "_law_text") 502, val := PySem.Value.ref 208 }, { hash := PySem.PyData.keyHash P (PySem.Str.ofString "_law_refused"), key := PySem.Value.str (PySem.Str.ofString "_law_refused") 511, val := PySem.Value.ref 215 }, { hash := PySem.PyData.keyHash P (PySem.Str.ofString "_law_cut"), key := PySem.Value.str (PySem.Str.ofString "_law_cut") 525, val := PySem.Value.ref 222 }, { hash := PySem.PyData.keyHash P (PySem.Str.ofString "law"), key := PySem.Value.str (PySem.Str.ofString "law") 531, val := PySem.Value.ref 227 }] 38 } : PySem.Obj)) ::
    (nat_lit 15, ({ cls := PySem.Value.type "tuple", data := PySem.Data.seq #[PySem.Value.type "Exception"] } : PySem.Obj)) ::
    (nat_lit 22, ({ cls := PySem.Value.type "tuple", data := PySem.Data.seq #[] } : PySem.Obj)) ::
    (nat_lit 24, ({ cls := PySem.Value.type "tuple", data := PySem.Data.seq #[PySem.Value.str (PySem.Str.ofString "self") 204, PySem.Value.str (PySem.Str.ofString "text") 205] } : PySem.Obj)) ::
    (nat_lit 25, ({ cls := PySem.Value.type "tuple", data := PySem.Data.seq #[] } : PySem.Obj)) ::
    (nat_lit 27, ({ cls := PySem.Value.type "code", data := PySem.Data.fields #[PySem.Value.str (PySem.Str.ofString "__init__") 201, PySem.Value.str (PySem.Str.ofString "F77Error.__init__") 202, PySem.Value.str (PySem.Str.ofString "/claim/cut.py") 203, PySem.Value.int 4 0, PySem.Value.int 2 0, PySem.Value.int 0 0, PySem.Value.int 0 0, PySem.Value.int 3 0, PySem.Value.ref 22, PySem.Value.bool true, PySem.Value.int 181 0, PySem.Value.ref 23, PySem.Value.none, PySem.Value.ref 24, PySem.Value.ref 25, PySem.Value.ref 26, PySem.Value.int 206 0, PySem.Value.int 4 0, PySem.Value.str (PySem.Str.ofString "/claim/cut.py") 207] } : PySem.Obj)) ::
    (nat_lit 28, ({ cls := PySem.Value.type "function", data := PySem.Data.func { name := PySem.Str.ofString "__init__", qualname := PySem.Str.ofString "F77Error.__init__", params := ⟨p28x0, p28x1, p28x2, p28x3, p28x4, p28x5, p28x6⟩, body := PySem.FuncBody.stmts (h28 :: t28), scope := ⟨s28x0, s28x1, s28x2, s28x3, s28x4⟩, globals := 3, closure := [], defaults := PySem.Value.none, kwdefaults := PySem.Value.none, pyModule := PySem.Value.str (PySem.Str.ofString "f77.errors") 187, code := PySem.Value.ref 27 } } : PySem.Obj)) ::
    (nat_lit 29, ({ cls := PySem.Value.type "tuple", data := PySem.Data.seq #[PySem.Value.str (PySem.Str.ofString "text") 209] } : PySem.Obj)) ::
    (nat_lit 30, ({ cls := PySem.Value.type "dict", data := PySem.Data.dict #[{ hash := PySem.PyData.keyHash P (PySem.Str.ofString "__module__"), key := PySem.Value.str (PySem.Str.ofString "__module__") 196, val := PySem.Value.str (PySem.Str.ofString "f77.errors") 187 }, { hash := PySem.PyData.keyHash P (PySem.Str.ofString "__firstlineno__"), key := PySem.Value.str (PySem.Str.ofString "__firstlineno__") 200, val := PySem.Value.int 2 199 }, { hash := PySem.PyData.keyHash P (PySem.Str.ofString "__init__"), key := PySem.Value.str (PySem.Str.ofString "__init__") 208, val := PySem.Value.ref 28 }, { hash := PySem.PyData.keyHash P (PySem.Str.ofString "__static_attributes__"), key := PySem.Value.str (PySem.Str.ofString "__static_attributes__") 210, val := PySem.Value.ref 29 }, { hash := PySem.PyData.keyHash P (PySem.Str.ofString "__weakref__"), key := PySem.Value.str (PySem.Str.ofString "__weakref__") 212, val := PySem.Value.ref 32 }, { hash := PySem.PyData.keyHash P (PySem.Str.ofString "__doc__"), key := PySem.Value.str (PySem.Str.ofString "__doc__") 213, val := PySem.Value.none }] 3 } : PySem.Obj)) ::
    (nat_lit 31, ({ cls := PySem.Value.type "type", data := PySem.Data.cls { name := PySem.Str.ofString "F77Error", bases := [PySem.Value.type "Exception"], mro := [PySem.Value.ref 31, PySem.Value.type "Exception", PySem.Value.type "BaseException", PySem.Value.type "object"], ns := 30, qualname := PySem.Str.ofString "F77Error", subclasses := [PySem.Value.ref 51] }, slots := #[some (PySem.Value.ref 15), none, some (PySem.Value.str (PySem.Str.ofString "F77Error") 189), some (PySem.Value.str (PySem.Str.ofString "F77Error") 197), some (PySem.Value.builtin "Exception.__new__"), some (PySem.Value.bool true)] } : PySem.Obj)) ::
    (nat_lit 32, ({ cls := PySem.Value.type "getset_descriptor", data := PySem.Data.fields #[PySem.Value.str (PySem.Str.ofString "__weakref__") 211, PySem.Value.ref 31, PySem.Value.builtin "ExceptionGroup.__weakref__", PySem.Value.none] } : PySem.Obj)) ::
    (nat_lit 35, ({ cls := PySem.Value.type "tuple", data := PySem.Data.seq #[PySem.Value.ref 31] } : PySem.Obj)) ::
    (nat_lit 42, ({ cls := PySem.Value.type "tuple", data := PySem.Data.seq #[] } : PySem.Obj)) ::
    (nat_lit 44, ({ cls := PySem.Value.type "tuple", data := PySem.Data.seq #[PySem.Value.str (PySem.Str.ofString "self") 233, PySem.Value.str (PySem.Str.ofString "line") 234, PySem.Value.str (PySem.Str.ofString "text") 235] } : PySem.Obj)) ::
    (nat_lit 45, ({ cls := PySem.Value.type "tuple", data := PySem.Data.seq #[] } : PySem.Obj)) ::
    (nat_lit 47, ({ cls := PySem.Value.type "code", data := PySem.Data.fields #[PySem.Value.str (PySem.Str.ofString "__init__") 230, PySem.Value.str (PySem.Str.ofString "SourceError.__init__") 231, PySem.Value.str (PySem.Str.ofString "/claim/cut.py") 232, PySem.Value.int 9 0, PySem.Value.int 3 0, PySem.Value.int 0 0, PySem.Value.int 0 0, PySem.Value.int 3 0, PySem.Value.ref 42, PySem.Value.bool true, PySem.Value.int 181 0, PySem.Value.ref 43, PySem.Value.none, PySem.Value.ref 44, PySem.Value.ref 45, PySem.Value.ref 46, PySem.Value.int 236 0, PySem.Value.int 9 0, PySem.Value.str (PySem.Str.ofString "/claim/cut.py") 237] } : PySem.Obj)) ::
    (nat_lit 48, ({ cls := PySem.Value.type "function", data := PySem.Data.func { name := PySem.Str.ofString "__init__", qualname := PySem.Str.ofString "SourceError.__init__", params := ⟨p48x0, p48x1, p48x2, p48x3, p48x4, p48x5, p48x6⟩, body := PySem.FuncBody.stmts (h48 :: t48), scope := ⟨s48x0, s48x1, s48x2, s48x3, s48x4⟩, globals := 3, closure := [], defaults := PySem.Value.none, kwdefaults := PySem.Value.none, pyModule := PySem.Value.str (PySem.Str.ofString "f77.errors") 187, code := PySem.Value.ref 47 } } : PySem.Obj)) ::
    (nat_lit 49, ({ cls := PySem.Value.type "tuple", data := PySem.Data.seq #[PySem.Value.str (PySem.Str.ofString "line") 239] } : PySem.Obj)) ::
    (nat_lit 50, ({ cls := PySem.Value.type "dict", data := PySem.Data.dict #[{ hash := PySem.PyData.keyHash P (PySem.Str.ofString "__module__"), key := PySem.Value.str (PySem.Str.ofString "__module__") 225, val := PySem.Value.str (PySem.Str.ofString "f77.errors") 187 }, { hash := PySem.PyData.keyHash P (PySem.Str.ofString "__firstlineno__"), key := PySem.Value.str (PySem.Str.ofString "__firstlineno__") 229, val := PySem.Value.int 7 228 }, { hash := PySem.PyData.keyHash P (PySem.Str.ofString "__init__"), key := PySem.Value.str (PySem.Str.ofString "__init__") 238, val := PySem.Value.ref 48 }, { hash := PySem.PyData.keyHash P (PySem.Str.ofString "__static_attributes__"), key := PySem.Value.str (PySem.Str.ofString "__static_attributes__") 240, val := PySem.Value.ref 49 }, { hash := PySem.PyData.keyHash P (PySem.Str.ofString "__doc__"), key := PySem.Value.str (PySem.Str.ofString "__doc__") 241, val := PySem.Value.none }] 2 } : PySem.Obj)) ::
    (nat_lit 51, ({ cls := PySem.Value.type "type", data := PySem.Data.cls { name := PySem.Str.ofString "SourceError", bases := [PySem.Value.ref 31], mro := [PySem.Value.ref 51, PySem.Value.ref 31, PySem.Value.type "Exception", PySem.Value.type "BaseException", PySem.Value.type "object"], ns := 50, qualname := PySem.Str.ofString "SourceError" }, slots := #[some (PySem.Value.ref 35), none, some (PySem.Value.str (PySem.Str.ofString "SourceError") 218), some (PySem.Value.str (PySem.Str.ofString "SourceError") 226), some (PySem.Value.builtin "Exception.__new__"), some (PySem.Value.bool true)] } : PySem.Obj)) ::
    (nat_lit 54, ({ cls := PySem.Value.type "tuple", data := PySem.Data.seq #[] } : PySem.Obj)) ::
    (nat_lit 56, ({ cls := PySem.Value.type "tuple", data := PySem.Data.seq #[PySem.Value.str (PySem.Str.ofString "label") 253, PySem.Value.str (PySem.Str.ofString "text") 254, PySem.Value.str (PySem.Str.ofString "limits") 255, PySem.Value.str (PySem.Str.ofString "width") 256, PySem.Value.str (PySem.Str.ofString "head") 257, PySem.Value.str (PySem.Str.ofString "rows") 258, PySem.Value.str (PySem.Str.ofString "at") 259] } : PySem.Obj)) ::
    (nat_lit 57, ({ cls := PySem.Value.type "tuple", data := PySem.Data.seq #[] } : PySem.Obj)) ::
    (nat_lit 59, ({ cls := PySem.Value.type "code", data := PySem.Data.fields #[PySem.Value.str (PySem.Str.ofString "fixed_rows") 250, PySem.Value.str (PySem.Str.ofString "fixed_rows") 251, PySem.Value.str (PySem.Str.ofString "/claim/cut.py") 252, PySem.Value.int 15 0, PySem.Value.int 3 0, PySem.Value.int 0 0, PySem.Value.int 0 0, PySem.Value.int 3 0, PySem.Value.ref 54, PySem.Value.bool true, PySem.Value.int 181 0, PySem.Value.ref 55, PySem.Value.none, PySem.Value.ref 56, PySem.Value.ref 57, PySem.Value.ref 58, PySem.Value.int 260 0, PySem.Value.int 15 0, PySem.Value.str (PySem.Str.ofString "/claim/cut.py") 261] } : PySem.Obj)) ::
    (nat_lit 60, ({ cls := PySem.Value.type "function", data := PySem.Data.func { name := PySem.Str.ofString "fixed_rows", qualname := PySem.Str.ofString "fixed_rows", params := ⟨p60x0, p60x1, p60x2, p60x3, p60x4, p60x5, p60x6⟩, body := PySem.FuncBody.stmts (h60 :: t60), scope := ⟨s60x0, s60x1, s60x2, s60x3, s60x4⟩, globals := 3, closure := [], defaults := PySem.Value.none, kwdefaults := PySem.Value.none, pyModule := PySem.Value.str (PySem.Str.ofString "f77.lister") 244, code := PySem.Value.ref 59 } } : PySem.Obj)) ::
    (nat_lit 61, ({ cls := PySem.Value.type "tuple", data := PySem.Data.seq #[] } : PySem.Obj)) ::
    (nat_lit 63, ({ cls := PySem.Value.type "tuple", data := PySem.Data.seq #[PySem.Value.str (PySem.Str.ofString "pairs") 266, PySem.Value.str (PySem.Str.ofString "limits") 267, PySem.Value.str (PySem.Str.ofString "rows") 268, PySem.Value.str (PySem.Str.ofString "label") 269, PySem.Value.str (PySem.Str.ofString "text") 270] } : PySem.Obj)) ::
    (nat_lit 64, ({ cls := PySem.Value.type "tuple", data := PySem.Data.seq #[] } : PySem.Obj)) ::
    (nat_lit 66, ({ cls := PySem.Value.type "code", data := PySem.Data.fields #[PySem.Value.str (PySem.Str.ofString "list_rows") 263, PySem.Value.str (PySem.Str.ofString "list_rows") 264, PySem.Value.str (PySem.Str.ofString "/claim/cut.py") 265, PySem.Value.int 28 0, PySem.Value.int 2 0, PySem.Value.int 0 0, PySem.Value.int 0 0, PySem.Value.int 3 0, PySem.Value.ref 61, PySem.Value.bool true, PySem.Value.int 181 0, PySem.Value.ref 62, PySem.Value.none, PySem.Value.ref 63, PySem.Value.ref 64, PySem.Value.ref 65, PySem.Value.int 271 0, PySem.Value.int 28 0, PySem.Value.str (PySem.Str.ofString "/claim/cut.py") 272] } : PySem.Obj)) ::
    (nat_lit 67, ({ cls := PySem.Value.type "function", data := PySem.Data.func { name := PySem.Str.ofString "list_rows", qualname := PySem.Str.ofString "list_rows", params := ⟨p67x0, p67x1, p67x2, p67x3, p67x4, p67x5, p67x6⟩, body := PySem.FuncBody.stmts (h67 :: t67), scope := ⟨s67x0, s67x1, s67x2, s67x3, s67x4⟩, globals := 3, closure := [], defaults := PySem.Value.none, kwdefaults := PySem.Value.none, pyModule := PySem.Value.str (PySem.Str.ofString "f77.lister") 244, code := PySem.Value.ref 66 } } : PySem.Obj)) ::
    (nat_lit 75, ({ cls := PySem.Value.type "tuple", data := PySem.Data.seq #[PySem.Value.int 32 288, PySem.Value.int 7 289, PySem.Value.int 15 290, PySem.Value.int 38 291, PySem.Value.int 1000000 292, PySem.Value.int 19 293, PySem.Value.int 72 294, PySem.Value.int 40 295] } : PySem.Obj)) ::
    (nat_lit 76, ({ cls := PySem.Value.type "tuple", data := PySem.Data.seq #[] } : PySem.Obj)) ::
    (nat_lit 78, ({ cls := PySem.Value.type "tuple", data := PySem.Data.seq #[PySem.Value.str (PySem.Str.ofString "self") 299, PySem.Value.str (PySem.Str.ofString "width") 300, PySem.Value.str (PySem.Str.ofString "real_digits") 301, PySem.Value.str (PySem.Str.ofString "double_digits") 302, PySem.Value.str (PySem.Str.ofString "top_exponent") 303, PySem.Value.str (PySem.Str.ofString "steps") 304, PySem.Value.str (PySem.Str.ofString "continuations") 305, PySem.Value.str (PySem.Str.ofString "columns") 306, PySem.Value.str (PySem.Str.ofString "depth") 307] } : PySem.Obj)) ::
    (nat_lit 79, ({ cls := PySem.Value.type "tuple", data := PySem.Data.seq #[] } : PySem.Obj)) ::
    (nat_lit 81, ({ cls := PySem.Value.type "code", data := PySem.Data.fields #[PySem.Value.str (PySem.Str.ofString "__init__") 296, PySem.Value.str (PySem.Str.ofString "Limits.__init__") 297, PySem.Value.str (PySem.Str.ofString "/claim/cut.py") 298, PySem.Value.int 36 0, PySem.Value.int 9 0, PySem.Value.int 0 0, PySem.Value.int 0 0, PySem.Value.int 3 0, PySem.Value.ref 76, PySem.Value.bool true, PySem.Value.int 181 0, PySem.Value.ref 77, PySem.Value.none, PySem.Value.ref 78, PySem.Value.ref 79, PySem.Value.ref 80, PySem.Value.int 308 0, PySem.Value.int 36 0, PySem.Value.str (PySem.Str.ofString "/claim/cut.py") 309] } : PySem.Obj)) ::
    (nat_lit 82, ({ cls := PySem.Value.type "function", data := PySem.Data.func { name := PySem.Str.ofString "__init__", qualname := PySem.Str.ofString "Limits.__init__", params := ⟨p82x0, p82x1, p82x2, p82x3, p82x4, p82x5, p82x6⟩, body := PySem.FuncBody.stmts (h82 :: t82), scope := ⟨s82x0, s82x1, s82x2, s82x3, s82x4⟩, globals := 3, closure := [], defaults := PySem.Value.ref 75, kwdefaults := PySem.Value.none, pyModule := PySem.Value.str (PySem.Str.ofString "f77.limits") 274, code := PySem.Value.ref 81 } } : PySem.Obj)) ::
    (nat_lit 83, ({ cls := PySem.Value.type "tuple", data := PySem.Data.seq #[PySem.Value.str (PySem.Str.ofString "columns") 311, PySem.Value.str (PySem.Str.ofString "continuations") 312, PySem.Value.str (PySem.Str.ofString "depth") 313, PySem.Value.str (PySem.Str.ofString "double_digits") 314, PySem.Value.str (PySem.Str.ofString "real_digits") 315, PySem.Value.str (PySem.Str.ofString "steps") 316, PySem.Value.str (PySem.Str.ofString "top_exponent") 317, PySem.Value.str (PySem.Str.ofString "width") 318] } : PySem.Obj)) ::
    (nat_lit 84, ({ cls := PySem.Value.type "dict", data := PySem.Data.dict #[{ hash := PySem.PyData.keyHash P (PySem.Str.ofString "__module__"), key := PySem.Value.str (PySem.Str.ofString "__module__") 283, val := PySem.Value.str (PySem.Str.ofString "f77.limits") 274 }, { hash := PySem.PyData.keyHash P (PySem.Str.ofString "__firstlineno__"), key := PySem.Value.str (PySem.Str.ofString "__firstlineno__") 287, val := PySem.Value.int 34 286 }, { hash := PySem.PyData.keyHash P (PySem.Str.ofString "__init__"), key := PySem.Value.str (PySem.Str.ofString "__init__") 310, val := PySem.Value.ref 82 }, { hash := PySem.PyData.keyHash P (PySem.Str.ofString "__static_attributes__"), key := PySem.Value.str (PySem.Str.ofString "__static_attributes__") 319, val := PySem.Value.ref 83 }, { hash := PySem.PyData.keyHash P (PySem.Str.ofString "__dict__"), key := PySem.Value.str (PySem.Str.ofString "__dict__") 321, val := PySem.Value.ref 86 }, { hash := PySem.PyData.keyHash P (PySem.Str.ofString "__weakref__"), key := PySem.Value.str (PySem.Str.ofString "__weakref__") 323, val := PySem.Value.ref 87 }, { hash := PySem.PyData.keyHash P (PySem.Str.ofString "__doc__"), key := PySem.Value.str (PySem.Str.ofString "__doc__") 324, val := PySem.Value.none }] 4 } : PySem.Obj)) ::
    (nat_lit 85, ({ cls := PySem.Value.type "type", data := PySem.Data.cls { name := PySem.Str.ofString "Limits", bases := [PySem.Value.type "object"], mro := [PySem.Value.ref 85, PySem.Value.type "object"], ns := 84, qualname := PySem.Str.ofString "Limits" }, slots := #[none, none, some (PySem.Value.str (PySem.Str.ofString "Limits") 276), some (PySem.Value.str (PySem.Str.ofString "Limits") 284), some (PySem.Value.builtin "object.__new__"), some (PySem.Value.bool true)] } : PySem.Obj)) ::
    (nat_lit 86, ({ cls := PySem.Value.type "getset_descriptor", data := PySem.Data.fields #[PySem.Value.str (PySem.Str.ofString "__dict__") 320, PySem.Value.ref 85, PySem.Value.builtin "function.__dict__", PySem.Value.builtin "function.__dict__#set"] } : PySem.Obj)) ::
    (nat_lit 87, ({ cls := PySem.Value.type "getset_descriptor", data := PySem.Data.fields #[PySem.Value.str (PySem.Str.ofString "__weakref__") 322, PySem.Value.ref 85, PySem.Value.builtin "ExceptionGroup.__weakref__", PySem.Value.none] } : PySem.Obj)) ::
    (nat_lit 97, ({ cls := PySem.Value.type "tuple", data := PySem.Data.seq #[] } : PySem.Obj)) ::
    (nat_lit 99, ({ cls := PySem.Value.type "tuple", data := PySem.Data.seq #[PySem.Value.str (PySem.Str.ofString "self") 350, PySem.Value.str (PySem.Str.ofString "line") 351, PySem.Value.str (PySem.Str.ofString "label") 352, PySem.Value.str (PySem.Str.ofString "mark") 353, PySem.Value.str (PySem.Str.ofString "body") 354] } : PySem.Obj)) ::
    (nat_lit 100, ({ cls := PySem.Value.type "tuple", data := PySem.Data.seq #[] } : PySem.Obj)) ::
    (nat_lit 102, ({ cls := PySem.Value.type "code", data := PySem.Data.fields #[PySem.Value.str (PySem.Str.ofString "__init__") 347, PySem.Value.str (PySem.Str.ofString "Card.__init__") 348, PySem.Value.str (PySem.Str.ofString "/claim/cut.py") 349, PySem.Value.int 51 0, PySem.Value.int 5 0, PySem.Value.int 0 0, PySem.Value.int 0 0, PySem.Value.int 3 0, PySem.Value.ref 97, PySem.Value.bool true, PySem.Value.int 181 0, PySem.Value.ref 98, PySem.Value.none, PySem.Value.ref 99, PySem.Value.ref 100, PySem.Value.ref 101, PySem.Value.int 355 0, PySem.Value.int 51 0, PySem.Value.str (PySem.Str.ofString "/claim/cut.py") 356] } : PySem.Obj)) ::
    (nat_lit 103, ({ cls := PySem.Value.type "function", data := PySem.Data.func { name := PySem.Str.ofString "__init__", qualname := PySem.Str.ofString "Card.__init__", params := ⟨p103x0, p103x1, p103x2, p103x3, p103x4, p103x5, p103x6⟩, body := PySem.FuncBody.stmts (h103 :: t103), scope := ⟨s103x0, s103x1, s103x2, s103x3, s103x4⟩, globals := 3, closure := [], defaults := PySem.Value.none, kwdefaults := PySem.Value.none, pyModule := PySem.Value.str (PySem.Str.ofString "f77.source") 327, code := PySem.Value.ref 102 } } : PySem.Obj)) ::
    (nat_lit 104, ({ cls := PySem.Value.type "tuple", data := PySem.Data.seq #[PySem.Value.str (PySem.Str.ofString "body") 358, PySem.Value.str (PySem.Str.ofString "label") 359, PySem.Value.str (PySem.Str.ofString "line") 360, PySem.Value.str (PySem.Str.ofString "mark") 361] } : PySem.Obj)) ::
    (nat_lit 105, ({ cls := PySem.Value.type "dict", data := PySem.Data.dict #[{ hash := PySem.PyData.keyHash P (PySem.Str.ofString "__module__"), key := PySem.Value.str (PySem.Str.ofString "__module__") 342, val := PySem.Value.str (PySem.Str.ofString "f77.source") 327 }, { hash := PySem.PyData.keyHash P (PySem.Str.ofString "__firstlineno__"), key := PySem.Value.str (PySem.Str.ofString "__firstlineno__") 346, val := PySem.Value.int 49 345 }, { hash := PySem.PyData.keyHash P (PySem.Str.ofString "__init__"), key := PySem.Value.str (PySem.Str.ofString "__init__") 357, val := PySem.Value.ref 103 }, { hash := PySem.PyData.keyHash P (PySem.Str.ofString "__static_attributes__"), key := PySem.Value.str (PySem.Str.ofString "__static_attributes__") 362, val := PySem.Value.ref 104 }, { hash := PySem.PyData.keyHash P (PySem.Str.ofString "__dict__"), key := PySem.Value.str (PySem.Str.ofString "__dict__") 364, val := PySem.Value.ref 107 }, { hash := PySem.PyData.keyHash P (PySem.Str.ofString "__weakref__"), key := PySem.Value.str (PySem.Str.ofString "__weakref__") 366, val := PySem.Value.ref 108 }, { hash := PySem.PyData.keyHash P (PySem.Str.ofString "__doc__"), key := PySem.Value.str (PySem.Str.ofString "__doc__") 367, val := PySem.Value.none }] 4 } : PySem.Obj)) ::
    (nat_lit 106, ({ cls := PySem.Value.type "type", data := PySem.Data.cls { name := PySem.Str.ofString "Card", bases := [PySem.Value.type "object"], mro := [PySem.Value.ref 106, PySem.Value.type "object"], ns := 105, qualname := PySem.Str.ofString "Card" }, slots := #[none, none, some (PySem.Value.str (PySem.Str.ofString "Card") 335), some (PySem.Value.str (PySem.Str.ofString "Card") 343), some (PySem.Value.builtin "object.__new__"), some (PySem.Value.bool true)] } : PySem.Obj)) ::
    (nat_lit 107, ({ cls := PySem.Value.type "getset_descriptor", data := PySem.Data.fields #[PySem.Value.str (PySem.Str.ofString "__dict__") 363, PySem.Value.ref 106, PySem.Value.builtin "function.__dict__", PySem.Value.builtin "function.__dict__#set"] } : PySem.Obj)) ::
    (nat_lit 108, ({ cls := PySem.Value.type "getset_descriptor", data := PySem.Data.fields #[PySem.Value.str (PySem.Str.ofString "__weakref__") 365, PySem.Value.ref 106, PySem.Value.builtin "ExceptionGroup.__weakref__", PySem.Value.none] } : PySem.Obj)) ::
    (nat_lit 111, ({ cls := PySem.Value.type "tuple", data := PySem.Data.seq #[] } : PySem.Obj)) ::
    (nat_lit 113, ({ cls := PySem.Value.type "tuple", data := PySem.Data.seq #[PySem.Value.str (PySem.Str.ofString "text") 373, PySem.Value.str (PySem.Str.ofString "rows") 374, PySem.Value.str (PySem.Str.ofString "out") 375, PySem.Value.str (PySem.Str.ofString "row") 376] } : PySem.Obj)) ::
    (nat_lit 114, ({ cls := PySem.Value.type "tuple", data := PySem.Data.seq #[] } : PySem.Obj)) ::
    (nat_lit 116, ({ cls := PySem.Value.type "code", data := PySem.Data.fields #[PySem.Value.str (PySem.Str.ofString "cards_of") 370, PySem.Value.str (PySem.Str.ofString "cards_of") 371, PySem.Value.str (PySem.Str.ofString "/claim/cut.py") 372, PySem.Value.int 56 0, PySem.Value.int 1 0, PySem.Value.int 0 0, PySem.Value.int 0 0, PySem.Value.int 3 0, PySem.Value.ref 111, PySem.Value.bool true, PySem.Value.int 181 0, PySem.Value.ref 112, PySem.Value.none, PySem.Value.ref 113, PySem.Value.ref 114, PySem.Value.ref 115, PySem.Value.int 377 0, PySem.Value.int 56 0, PySem.Value.str (PySem.Str.ofString "/claim/cut.py") 378] } : PySem.Obj)) ::
    (nat_lit 117, ({ cls := PySem.Value.type "function", data := PySem.Data.func { name := PySem.Str.ofString "cards_of", qualname := PySem.Str.ofString "cards_of", params := ⟨p117x0, p117x1, p117x2, p117x3, p117x4, p117x5, p117x6⟩, body := PySem.FuncBody.stmts (h117 :: t117), scope := ⟨s117x0, s117x1, s117x2, s117x3, s117x4⟩, globals := 3, closure := [], defaults := PySem.Value.none, kwdefaults := PySem.Value.none, pyModule := PySem.Value.str (PySem.Str.ofString "f77.source") 327, code := PySem.Value.ref 116 } } : PySem.Obj)) ::
    (nat_lit 118, ({ cls := PySem.Value.type "tuple", data := PySem.Data.seq #[] } : PySem.Obj)) ::
    (nat_lit 120, ({ cls := PySem.Value.type "tuple", data := PySem.Data.seq #[PySem.Value.str (PySem.Str.ofString "text") 383] } : PySem.Obj)) ::
    (nat_lit 121, ({ cls := PySem.Value.type "tuple", data := PySem.Data.seq #[] } : PySem.Obj)) ::
    (nat_lit 123, ({ cls := PySem.Value.type "code", data := PySem.Data.fields #[PySem.Value.str (PySem.Str.ofString "without_blanks") 380, PySem.Value.str (PySem.Str.ofString "without_blanks") 381, PySem.Value.str (PySem.Str.ofString "/claim/cut.py") 382, PySem.Value.int 64 0, PySem.Value.int 1 0, PySem.Value.int 0 0, PySem.Value.int 0 0, PySem.Value.int 3 0, PySem.Value.ref 118, PySem.Value.bool true, PySem.Value.int 181 0, PySem.Value.ref 119, PySem.Value.none, PySem.Value.ref 120, PySem.Value.ref 121, PySem.Value.ref 122, PySem.Value.int 384 0, PySem.Value.int 64 0, PySem.Value.str (PySem.Str.ofString "/claim/cut.py") 385] } : PySem.Obj)) ::
    (nat_lit 124, ({ cls := PySem.Value.type "function", data := PySem.Data.func { name := PySem.Str.ofString "without_blanks", qualname := PySem.Str.ofString "without_blanks", params := ⟨p124x0, p124x1, p124x2, p124x3, p124x4, p124x5, p124x6⟩, body := PySem.FuncBody.stmts (h124 :: t124), scope := ⟨s124x0, s124x1, s124x2, s124x3, s124x4⟩, globals := 3, closure := [], defaults := PySem.Value.none, kwdefaults := PySem.Value.none, pyModule := PySem.Value.str (PySem.Str.ofString "f77.source") 327, code := PySem.Value.ref 123 } } : PySem.Obj)) ::
    (nat_lit 125, ({ cls := PySem.Value.type "tuple", data := PySem.Data.seq #[] } : PySem.Obj)) ::
    (nat_lit 127, ({ cls := PySem.Value.type "tuple", data := PySem.Data.seq #[PySem.Value.str (PySem.Str.ofString "row") 390, PySem.Value.str (PySem.Str.ofString "columns") 391] } : PySem.Obj)) ::
    (nat_lit 128, ({ cls := PySem.Value.type "tuple", data := PySem.Data.seq #[] } : PySem.Obj)) ::
    (nat_lit 130, ({ cls := PySem.Value.type "code", data := PySem.Data.fields #[PySem.Value.str (PySem.Str.ofString "is_comment") 387, PySem.Value.str (PySem.Str.ofString "is_comment") 388, PySem.Value.str (PySem.Str.ofString "/claim/cut.py") 389, PySem.Value.int 66 0, PySem.Value.int 2 0, PySem.Value.int 0 0, PySem.Value.int 0 0, PySem.Value.int 3 0, PySem.Value.ref 125, PySem.Value.bool true, PySem.Value.int 181 0, PySem.Value.ref 126, PySem.Value.none, PySem.Value.ref 127, PySem.Value.ref 128, PySem.Value.ref 129, PySem.Value.int 392 0, PySem.Value.int 66 0, PySem.Value.str (PySem.Str.ofString "/claim/cut.py") 393] } : PySem.Obj)) ::
    (nat_lit 131, ({ cls := PySem.Value.type "function", data := PySem.Data.func { name := PySem.Str.ofString "is_comment", qualname := PySem.Str.ofString "is_comment", params := ⟨p131x0, p131x1, p131x2, p131x3, p131x4, p131x5, p131x6⟩, body := PySem.FuncBody.stmts (h131 :: t131), scope := ⟨s131x0, s131x1, s131x2, s131x3, s131x4⟩, globals := 3, closure := [], defaults := PySem.Value.none, kwdefaults := PySem.Value.none, pyModule := PySem.Value.str (PySem.Str.ofString "f77.source") 327, code := PySem.Value.ref 130 } } : PySem.Obj)) ::
    (nat_lit 132, ({ cls := PySem.Value.type "tuple", data := PySem.Data.seq #[] } : PySem.Obj)) ::
    (nat_lit 134, ({ cls := PySem.Value.type "tuple", data := PySem.Data.seq #[PySem.Value.str (PySem.Str.ofString "text") 398, PySem.Value.str (PySem.Str.ofString "limits") 399, PySem.Value.str (PySem.Str.ofString "cards") 400, PySem.Value.str (PySem.Str.ofString "line") 401, PySem.Value.str (PySem.Str.ofString "row") 402, PySem.Value.str (PySem.Str.ofString "seen") 403] } : PySem.Obj)) ::
    (nat_lit 135, ({ cls := PySem.Value.type "tuple", data := PySem.Data.seq #[] } : PySem.Obj)) ::
    (nat_lit 137, ({ cls := PySem.Value.type "code", data := PySem.Data.fields #[PySem.Value.str (PySem.Str.ofString "read_cards") 395, PySem.Value.str (PySem.Str.ofString "read_cards") 396, PySem.Value.str (PySem.Str.ofString "/claim/cut.py") 397, PySem.Value.int 68 0, PySem.Value.int 2 0, PySem.Value.int 0 0, PySem.Value.int 0 0, PySem.Value.int 3 0, PySem.Value.ref 132, PySem.Value.bool true, PySem.Value.int 181 0, PySem.Value.ref 133, PySem.Value.none, PySem.Value.ref 134, PySem.Value.ref 135, PySem.Value.ref 136, PySem.Value.int 404 0, PySem.Value.int 68 0, PySem.Value.str (PySem.Str.ofString "/claim/cut.py") 405] } : PySem.Obj)) ::
    (nat_lit 138, ({ cls := PySem.Value.type "function", data := PySem.Data.func { name := PySem.Str.ofString "read_cards", qualname := PySem.Str.ofString "read_cards", params := ⟨p138x0, p138x1, p138x2, p138x3, p138x4, p138x5, p138x6⟩, body := PySem.FuncBody.stmts (h138 :: t138), scope := ⟨s138x0, s138x1, s138x2, s138x3, s138x4⟩, globals := 3, closure := [], defaults := PySem.Value.none, kwdefaults := PySem.Value.none, pyModule := PySem.Value.str (PySem.Str.ofString "f77.source") 327, code := PySem.Value.ref 137 } } : PySem.Obj)) ::
    (nat_lit 139, ({ cls := PySem.Value.type "tuple", data := PySem.Data.seq #[] } : PySem.Obj)) ::
    (nat_lit 141, ({ cls := PySem.Value.type "tuple", data := PySem.Data.seq #[PySem.Value.str (PySem.Str.ofString "card") 410] } : PySem.Obj)) ::
    (nat_lit 142, ({ cls := PySem.Value.type "tuple", data := PySem.Data.seq #[] } : PySem.Obj)) ::
    (nat_lit 144, ({ cls := PySem.Value.type "code", data := PySem.Data.fields #[PySem.Value.str (PySem.Str.ofString "is_continuation") 407, PySem.Value.str (PySem.Str.ofString "is_continuation") 408, PySem.Value.str (PySem.Str.ofString "/claim/cut.py") 409, PySem.Value.int 78 0, PySem.Value.int 1 0, PySem.Value.int 0 0, PySem.Value.int 0 0, PySem.Value.int 3 0, PySem.Value.ref 139, PySem.Value.bool true, PySem.Value.int 181 0, PySem.Value.ref 140, PySem.Value.none, PySem.Value.ref 141, PySem.Value.ref 142, PySem.Value.ref 143, PySem.Value.int 411 0, PySem.Value.int 78 0, PySem.Value.str (PySem.Str.ofString "/claim/cut.py") 412] } : PySem.Obj)) ::
    (nat_lit 145, ({ cls := PySem.Value.type "function", data := PySem.Data.func { name := PySem.Str.ofString "is_continuation", qualname := PySem.Str.ofString "is_continuation", params := ⟨p145x0, p145x1, p145x2, p145x3, p145x4, p145x5, p145x6⟩, body := PySem.FuncBody.stmts (h145 :: t145), scope := ⟨s145x0, s145x1, s145x2, s145x3, s145x4⟩, globals := 3, closure := [], defaults := PySem.Value.none, kwdefaults := PySem.Value.none, pyModule := PySem.Value.str (PySem.Str.ofString "f77.source") 327, code := PySem.Value.ref 144 } } : PySem.Obj)) ::
    (nat_lit 146, ({ cls := PySem.Value.type "tuple", data := PySem.Data.seq #[] } : PySem.Obj)) ::
    (nat_lit 148, ({ cls := PySem.Value.type "tuple", data := PySem.Data.seq #[PySem.Value.str (PySem.Str.ofString "card") 417, PySem.Value.str (PySem.Str.ofString "digits") 418, PySem.Value.str (PySem.Str.ofString "label") 419, PySem.Value.str (PySem.Str.ofString "sign") 420, PySem.Value.str (PySem.Str.ofString "digit") 421] } : PySem.Obj)) ::
    (nat_lit 149, ({ cls := PySem.Value.type "tuple", data := PySem.Data.seq #[] } : PySem.Obj)) ::
    (nat_lit 151, ({ cls := PySem.Value.type "code", data := PySem.Data.fields #[PySem.Value.str (PySem.Str.ofString "read_label") 414, PySem.Value.str (PySem.Str.ofString "read_label") 415, PySem.Value.str (PySem.Str.ofString "/claim/cut.py") 416, PySem.Value.int 80 0, PySem.Value.int 1 0, PySem.Value.int 0 0, PySem.Value.int 0 0, PySem.Value.int 3 0, PySem.Value.ref 146, PySem.Value.bool true, PySem.Value.int 181 0, PySem.Value.ref 147, PySem.Value.none, PySem.Value.ref 148, PySem.Value.ref 149, PySem.Value.ref 150, PySem.Value.int 422 0, PySem.Value.int 80 0, PySem.Value.str (PySem.Str.ofString "/claim/cut.py") 423] } : PySem.Obj)) ::
    (nat_lit 152, ({ cls := PySem.Value.type "function", data := PySem.Data.func { name := PySem.Str.ofString "read_label", qualname := PySem.Str.ofString "read_label", params := ⟨p152x0, p152x1, p152x2, p152x3, p152x4, p152x5, p152x6⟩, body := PySem.FuncBody.stmts (h152 :: t152), scope := ⟨s152x0, s152x1, s152x2, s152x3, s152x4⟩, globals := 3, closure := [], defaults := PySem.Value.none, kwdefaults := PySem.Value.none, pyModule := PySem.Value.str (PySem.Str.ofString "f77.source") 327, code := PySem.Value.ref 151 } } : PySem.Obj)) ::
    (nat_lit 153, ({ cls := PySem.Value.type "tuple", data := PySem.Data.seq #[] } : PySem.Obj)) ::
    (nat_lit 155, ({ cls := PySem.Value.type "tuple", data := PySem.Data.seq #[PySem.Value.str (PySem.Str.ofString "body") 428, PySem.Value.str (PySem.Str.ofString "width") 429] } : PySem.Obj)) ::
    (nat_lit 156, ({ cls := PySem.Value.type "tuple", data := PySem.Data.seq #[] } : PySem.Obj)) ::
    (nat_lit 158, ({ cls := PySem.Value.type "code", data := PySem.Data.fields #[PySem.Value.str (PySem.Str.ofString "padded") 425, PySem.Value.str (PySem.Str.ofString "padded") 426, PySem.Value.str (PySem.Str.ofString "/claim/cut.py") 427, PySem.Value.int 93 0, PySem.Value.int 2 0, PySem.Value.int 0 0, PySem.Value.int 0 0, PySem.Value.int 3 0, PySem.Value.ref 153, PySem.Value.bool true, PySem.Value.int 181 0, PySem.Value.ref 154, PySem.Value.none, PySem.Value.ref 155, PySem.Value.ref 156, PySem.Value.ref 157, PySem.Value.int 430 0, PySem.Value.int 93 0, PySem.Value.str (PySem.Str.ofString "/claim/cut.py") 431] } : PySem.Obj)) ::
    (nat_lit 159, ({ cls := PySem.Value.type "function", data := PySem.Data.func { name := PySem.Str.ofString "padded", qualname := PySem.Str.ofString "padded", params := ⟨p159x0, p159x1, p159x2, p159x3, p159x4, p159x5, p159x6⟩, body := PySem.FuncBody.stmts (h159 :: t159), scope := ⟨s159x0, s159x1, s159x2, s159x3, s159x4⟩, globals := 3, closure := [], defaults := PySem.Value.none, kwdefaults := PySem.Value.none, pyModule := PySem.Value.str (PySem.Str.ofString "f77.source") 327, code := PySem.Value.ref 158 } } : PySem.Obj)) ::
    (nat_lit 160, ({ cls := PySem.Value.type "tuple", data := PySem.Data.seq #[] } : PySem.Obj)) ::
    (nat_lit 162, ({ cls := PySem.Value.type "tuple", data := PySem.Data.seq #[PySem.Value.str (PySem.Str.ofString "rows") 436, PySem.Value.str (PySem.Str.ofString "width") 437, PySem.Value.str (PySem.Str.ofString "first") 438, PySem.Value.str (PySem.Str.ofString "text") 439, PySem.Value.str (PySem.Str.ofString "at") 440] } : PySem.Obj)) ::
    (nat_lit 163, ({ cls := PySem.Value.type "tuple", data := PySem.Data.seq #[] } : PySem.Obj)) ::
    (nat_lit 165, ({ cls := PySem.Value.type "code", data := PySem.Data.fields #[PySem.Value.str (PySem.Str.ofString "joined") 433, PySem.Value.str (PySem.Str.ofString "joined") 434, PySem.Value.str (PySem.Str.ofString "/claim/cut.py") 435, PySem.Value.int 97 0, PySem.Value.int 2 0, PySem.Value.int 0 0, PySem.Value.int 0 0, PySem.Value.int 3 0, PySem.Value.ref 160, PySem.Value.bool true, PySem.Value.int 181 0, PySem.Value.ref 161, PySem.Value.none, PySem.Value.ref 162, PySem.Value.ref 163, PySem.Value.ref 164, PySem.Value.int 441 0, PySem.Value.int 97 0, PySem.Value.str (PySem.Str.ofString "/claim/cut.py") 442] } : PySem.Obj)) ::
    (nat_lit 166, ({ cls := PySem.Value.type "function", data := PySem.Data.func { name := PySem.Str.ofString "joined", qualname := PySem.Str.ofString "joined", params := ⟨p166x0, p166x1, p166x2, p166x3, p166x4, p166x5, p166x6⟩, body := PySem.FuncBody.stmts (h166 :: t166), scope := ⟨s166x0, s166x1, s166x2, s166x3, s166x4⟩, globals := 3, closure := [], defaults := PySem.Value.none, kwdefaults := PySem.Value.none, pyModule := PySem.Value.str (PySem.Str.ofString "f77.source") 327, code := PySem.Value.ref 165 } } : PySem.Obj)) ::
    (nat_lit 167, ({ cls := PySem.Value.type "tuple", data := PySem.Data.seq #[] } : PySem.Obj)) ::
    (nat_lit 169, ({ cls := PySem.Value.type "tuple", data := PySem.Data.seq #[PySem.Value.str (PySem.Str.ofString "card") 447, PySem.Value.str (PySem.Str.ofString "rows") 448, PySem.Value.str (PySem.Str.ofString "limits") 449] } : PySem.Obj)) ::
    (nat_lit 170, ({ cls := PySem.Value.type "tuple", data := PySem.Data.seq #[] } : PySem.Obj)) ::
    (nat_lit 172, ({ cls := PySem.Value.type "code", data := PySem.Data.fields #[PySem.Value.str (PySem.Str.ofString "check_continuation") 444, PySem.Value.str (PySem.Str.ofString "check_continuation") 445, PySem.Value.str (PySem.Str.ofString "/claim/cut.py") 446, PySem.Value.int 108 0, PySem.Value.int 3 0, PySem.Value.int 0 0, PySem.Value.int 0 0, PySem.Value.int 3 0, PySem.Value.ref 167, PySem.Value.bool true, PySem.Value.int 181 0, PySem.Value.ref 168, PySem.Value.none, PySem.Value.ref 169, PySem.Value.ref 170, PySem.Value.ref 171, PySem.Value.int 450 0, PySem.Value.int 108 0, PySem.Value.str (PySem.Str.ofString "/claim/cut.py") 451] } : PySem.Obj)) ::
    (nat_lit 173, ({ cls := PySem.Value.type "function", data := PySem.Data.func { name := PySem.Str.ofString "check_continuation", qualname := PySem.Str.ofString "check_continuation", params := ⟨p173x0, p173x1, p173x2, p173x3, p173x4, p173x5, p173x6⟩, body := PySem.FuncBody.stmts (h173 :: t173), scope := ⟨s173x0, s173x1, s173x2, s173x3, s173x4⟩, globals := 3, closure := [], defaults := PySem.Value.none, kwdefaults := PySem.Value.none, pyModule := PySem.Value.str (PySem.Str.ofString "f77.source") 327, code := PySem.Value.ref 172 } } : PySem.Obj)) ::
    (nat_lit 174, ({ cls := PySem.Value.type "tuple", data := PySem.Data.seq #[] } : PySem.Obj)) ::
    (nat_lit 176, ({ cls := PySem.Value.type "tuple", data := PySem.Data.seq #[PySem.Value.str (PySem.Str.ofString "cards") 456, PySem.Value.str (PySem.Str.ofString "limits") 457, PySem.Value.str (PySem.Str.ofString "out") 458, PySem.Value.str (PySem.Str.ofString "rows") 459, PySem.Value.str (PySem.Str.ofString "width") 460, PySem.Value.str (PySem.Str.ofString "card") 461] } : PySem.Obj)) ::
    (nat_lit 177, ({ cls := PySem.Value.type "tuple", data := PySem.Data.seq #[] } : PySem.Obj)) ::
    (nat_lit 179, ({ cls := PySem.Value.type "code", data := PySem.Data.fields #[PySem.Value.str (PySem.Str.ofString "statements_of") 453, PySem.Value.str (PySem.Str.ofString "statements_of") 454, PySem.Value.str (PySem.Str.ofString "/claim/cut.py") 455, PySem.Value.int 117 0, PySem.Value.int 2 0, PySem.Value.int 0 0, PySem.Value.int 0 0, PySem.Value.int 3 0, PySem.Value.ref 174, PySem.Value.bool true, PySem.Value.int 181 0, PySem.Value.ref 175, PySem.Value.none, PySem.Value.ref 176, PySem.Value.ref 177, PySem.Value.ref 178, PySem.Value.int 462 0, PySem.Value.int 117 0, PySem.Value.str (PySem.Str.ofString "/claim/cut.py") 463] } : PySem.Obj)) ::
    (nat_lit 180, ({ cls := PySem.Value.type "function", data := PySem.Data.func { name := PySem.Str.ofString "statements_of", qualname := PySem.Str.ofString "statements_of", params := ⟨p180x0, p180x1, p180x2, p180x3, p180x4, p180x5, p180x6⟩, body := PySem.FuncBody.stmts (h180 :: t180), scope := ⟨s180x0, s180x1, s180x2, s180x3, s180x4⟩, globals := 3, closure := [], defaults := PySem.Value.none, kwdefaults := PySem.Value.none, pyModule := PySem.Value.str (PySem.Str.ofString "f77.source") 327, code := PySem.Value.ref 179 } } : PySem.Obj)) ::
    (nat_lit 181, ({ cls := PySem.Value.type "tuple", data := PySem.Data.seq #[] } : PySem.Obj)) ::
    (nat_lit 183, ({ cls := PySem.Value.type "tuple", data := PySem.Data.seq #[PySem.Value.str (PySem.Str.ofString "text") 468, PySem.Value.str (PySem.Str.ofString "limits") 469] } : PySem.Obj)) ::
    (nat_lit 184, ({ cls := PySem.Value.type "tuple", data := PySem.Data.seq #[] } : PySem.Obj)) ::
    (nat_lit 186, ({ cls := PySem.Value.type "code", data := PySem.Data.fields #[PySem.Value.str (PySem.Str.ofString "read_statements") 465, PySem.Value.str (PySem.Str.ofString "read_statements") 466, PySem.Value.str (PySem.Str.ofString "/claim/cut.py") 467, PySem.Value.int 133 0, PySem.Value.int 2 0, PySem.Value.int 0 0, PySem.Value.int 0 0, PySem.Value.int 3 0, PySem.Value.ref 181, PySem.Value.bool true, PySem.Value.int 181 0, PySem.Value.ref 182, PySem.Value.none, PySem.Value.ref 183, PySem.Value.ref 184, PySem.Value.ref 185, PySem.Value.int 470 0, PySem.Value.int 133 0, PySem.Value.str (PySem.Str.ofString "/claim/cut.py") 471] } : PySem.Obj)) ::
    (nat_lit 187, ({ cls := PySem.Value.type "function", data := PySem.Data.func { name := PySem.Str.ofString "read_statements", qualname := PySem.Str.ofString "read_statements", params := ⟨p187x0, p187x1, p187x2, p187x3, p187x4, p187x5, p187x6⟩, body := PySem.FuncBody.stmts (h187 :: t187), scope := ⟨s187x0, s187x1, s187x2, s187x3, s187x4⟩, globals := 3, closure := [], defaults := PySem.Value.none, kwdefaults := PySem.Value.none, pyModule := PySem.Value.str (PySem.Str.ofString "f77.source") 327, code := PySem.Value.ref 186 } } : PySem.Obj)) ::
    (nat_lit 188, ({ cls := PySem.Value.type "tuple", data := PySem.Data.seq #[] } : PySem.Obj)) ::
    (nat_lit 190, ({ cls := PySem.Value.type "tuple", data := PySem.Data.seq #[] } : PySem.Obj)) ::
    (nat_lit 191, ({ cls := PySem.Value.type "tuple", data := PySem.Data.seq #[] } : PySem.Obj)) ::
    (nat_lit 193, ({ cls := PySem.Value.type "code", data := PySem.Data.fields #[PySem.Value.str (PySem.Str.ofString "_law_remarks") 477, PySem.Value.str (PySem.Str.ofString "_law_remarks") 478, PySem.Value.str (PySem.Str.ofString "/claim/cut.py") 479, PySem.Value.int 137 0, PySem.Value.int 0 0, PySem.Value.int 0 0, PySem.Value.int 0 0, PySem.Value.int 3 0, PySem.Value.ref 188, PySem.Value.bool true, PySem.Value.int 181 0, PySem.Value.ref 189, PySem.Value.none, PySem.Value.ref 190, PySem.Value.ref 191, PySem.Value.ref 192, PySem.Value.int 480 0, PySem.Value.int 137 0, PySem.Value.str (PySem.Str.ofString "/claim/cut.py") 481] } : PySem.Obj)) ::
    (nat_lit 194, ({ cls := PySem.Value.type "function", data := PySem.Data.func { name := PySem.Str.ofString "_law_remarks", qualname := PySem.Str.ofString "_law_remarks", params := ⟨p194x0, p194x1, p194x2, p194x3, p194x4, p194x5, p194x6⟩, body := PySem.FuncBody.stmts (h194 :: t194), scope := ⟨s194x0, s194x1, s194x2, s194x3, s194x4⟩, globals := 3, closure := [], defaults := PySem.Value.none, kwdefaults := PySem.Value.none, pyModule := PySem.Value.str (PySem.Str.ofString "law_no0235_01") 473, code := PySem.Value.ref 193 } } : PySem.Obj)) ::
    (nat_lit 195, ({ cls := PySem.Value.type "tuple", data := PySem.Data.seq #[] } : PySem.Obj)) ::
    (nat_lit 197, ({ cls := PySem.Value.type "tuple", data := PySem.Data.seq #[PySem.Value.str (PySem.Str.ofString "tape") 486, PySem.Value.str (PySem.Str.ofString "n") 487, PySem.Value.str (PySem.Str.ofString "at") 488] } : PySem.Obj)) ::
    (nat_lit 198, ({ cls := PySem.Value.type "tuple", data := PySem.Data.seq #[] } : PySem.Obj)) ::
    (nat_lit 200, ({ cls := PySem.Value.type "code", data := PySem.Data.fields #[PySem.Value.str (PySem.Str.ofString "_law_take") 483, PySem.Value.str (PySem.Str.ofString "_law_take") 484, PySem.Value.str (PySem.Str.ofString "/claim/cut.py") 485, PySem.Value.int 139 0, PySem.Value.int 2 0, PySem.Value.int 0 0, PySem.Value.int 0 0, PySem.Value.int 3 0, PySem.Value.ref 195, PySem.Value.bool true, PySem.Value.int 181 0, PySem.Value.ref 196, PySem.Value.none, PySem.Value.ref 197, PySem.Value.ref 198, PySem.Value.ref 199, PySem.Value.int 489 0, PySem.Value.int 139 0, PySem.Value.str (PySem.Str.ofString "/claim/cut.py") 490] } : PySem.Obj)) ::
    (nat_lit 201, ({ cls := PySem.Value.type "function", data := PySem.Data.func { name := PySem.Str.ofString "_law_take", qualname := PySem.Str.ofString "_law_take", params := ⟨p201x0, p201x1, p201x2, p201x3, p201x4, p201x5, p201x6⟩, body := PySem.FuncBody.stmts (h201 :: t201), scope := ⟨s201x0, s201x1, s201x2, s201x3, s201x4⟩, globals := 3, closure := [], defaults := PySem.Value.none, kwdefaults := PySem.Value.none, pyModule := PySem.Value.str (PySem.Str.ofString "law_no0235_01") 473, code := PySem.Value.ref 200 } } : PySem.Obj)) ::
    (nat_lit 202, ({ cls := PySem.Value.type "tuple", data := PySem.Data.seq #[] } : PySem.Obj)) ::
    (nat_lit 204, ({ cls := PySem.Value.type "tuple", data := PySem.Data.seq #[PySem.Value.str (PySem.Str.ofString "tape") 495, PySem.Value.str (PySem.Str.ofString "length") 496, PySem.Value.str (PySem.Str.ofString "seed") 497, PySem.Value.str (PySem.Str.ofString "text") 498, PySem.Value.str (PySem.Str.ofString "turn") 499] } : PySem.Obj)) ::
    (nat_lit 205, ({ cls := PySem.Value.type "tuple", data := PySem.Data.seq #[] } : PySem.Obj)) ::
    (nat_lit 207, ({ cls := PySem.Value.type "code", data := PySem.Data.fields #[PySem.Value.str (PySem.Str.ofString "_law_text") 492, PySem.Value.str (PySem.Str.ofString "_law_text") 493, PySem.Value.str (PySem.Str.ofString "/claim/cut.py") 494, PySem.Value.int 145 0, PySem.Value.int 1 0, PySem.Value.int 0 0, PySem.Value.int 0 0, PySem.Value.int 3 0, PySem.Value.ref 202, PySem.Value.bool true, PySem.Value.int 181 0, PySem.Value.ref 203, PySem.Value.none, PySem.Value.ref 204, PySem.Value.ref 205, PySem.Value.ref 206, PySem.Value.int 500 0, PySem.Value.int 145 0, PySem.Value.str (PySem.Str.ofString "/claim/cut.py") 501] } : PySem.Obj)) ::
    (nat_lit 208, ({ cls := PySem.Value.type "function", data := PySem.Data.func { name := PySem.Str.ofString "_law_text", qualname := PySem.Str.ofString "_law_text", params := ⟨p208x0, p208x1, p208x2, p208x3, p208x4, p208x5, p208x6⟩, body := PySem.FuncBody.stmts (h208 :: t208), scope := ⟨s208x0, s208x1, s208x2, s208x3, s208x4⟩, globals := 3, closure := [], defaults := PySem.Value.none, kwdefaults := PySem.Value.none, pyModule := PySem.Value.str (PySem.Str.ofString "law_no0235_01") 473, code := PySem.Value.ref 207 } } : PySem.Obj)) ::
    (nat_lit 209, ({ cls := PySem.Value.type "tuple", data := PySem.Data.seq #[] } : PySem.Obj)) ::
    (nat_lit 211, ({ cls := PySem.Value.type "tuple", data := PySem.Data.seq #[PySem.Value.str (PySem.Str.ofString "label") 506, PySem.Value.str (PySem.Str.ofString "text") 507, PySem.Value.str (PySem.Str.ofString "limits") 508] } : PySem.Obj)) ::
    (nat_lit 212, ({ cls := PySem.Value.type "tuple", data := PySem.Data.seq #[] } : PySem.Obj)) ::
    (nat_lit 214, ({ cls := PySem.Value.type "code", data := PySem.Data.fields #[PySem.Value.str (PySem.Str.ofString "_law_refused") 503, PySem.Value.str (PySem.Str.ofString "_law_refused") 504, PySem.Value.str (PySem.Str.ofString "/claim/cut.py") 505, PySem.Value.int 153 0, PySem.Value.int 3 0, PySem.Value.int 0 0, PySem.Value.int 0 0, PySem.Value.int 3 0, PySem.Value.ref 209, PySem.Value.bool true, PySem.Value.int 181 0, PySem.Value.ref 210, PySem.Value.none, PySem.Value.ref 211, PySem.Value.ref 212, PySem.Value.ref 213, PySem.Value.int 509 0, PySem.Value.int 153 0, PySem.Value.str (PySem.Str.ofString "/claim/cut.py") 510] } : PySem.Obj)) ::
    (nat_lit 215, ({ cls := PySem.Value.type "function", data := PySem.Data.func { name := PySem.Str.ofString "_law_refused", qualname := PySem.Str.ofString "_law_refused", params := ⟨p215x0, p215x1, p215x2, p215x3, p215x4, p215x5, p215x6⟩, body := PySem.FuncBody.stmts (h215 :: t215), scope := ⟨s215x0, s215x1, s215x2, s215x3, s215x4⟩, globals := 3, closure := [], defaults := PySem.Value.none, kwdefaults := PySem.Value.none, pyModule := PySem.Value.str (PySem.Str.ofString "law_no0235_01") 473, code := PySem.Value.ref 214 } } : PySem.Obj)) ::
    (nat_lit 216, ({ cls := PySem.Value.type "tuple", data := PySem.Data.seq #[] } : PySem.Obj)) ::
    (nat_lit 218, ({ cls := PySem.Value.type "tuple", data := PySem.Data.seq #[PySem.Value.str (PySem.Str.ofString "label") 515, PySem.Value.str (PySem.Str.ofString "text") 516, PySem.Value.str (PySem.Str.ofString "rows") 517, PySem.Value.str (PySem.Str.ofString "columns") 518, PySem.Value.str (PySem.Str.ofString "width") 519, PySem.Value.str (PySem.Str.ofString "body") 520, PySem.Value.str (PySem.Str.ofString "at") 521, PySem.Value.str (PySem.Str.ofString "row") 522] } : PySem.Obj)) ::
    (nat_lit 219, ({ cls := PySem.Value.type "tuple", data := PySem.Data.seq #[] } : PySem.Obj)) ::
    (nat_lit 221, ({ cls := PySem.Value.type "code", data := PySem.Data.fields #[PySem.Value.str (PySem.Str.ofString "_law_cut") 512, PySem.Value.str (PySem.Str.ofString "_law_cut") 513, PySem.Value.str (PySem.Str.ofString "/claim/cut.py") 514, PySem.Value.int 159 0, PySem.Value.int 4 0, PySem.Value.int 0 0, PySem.Value.int 0 0, PySem.Value.int 3 0, PySem.Value.ref 216, PySem.Value.bool true, PySem.Value.int 181 0, PySem.Value.ref 217, PySem.Value.none, PySem.Value.ref 218, PySem.Value.ref 219, PySem.Value.ref 220, PySem.Value.int 523 0, PySem.Value.int 159 0, PySem.Value.str (PySem.Str.ofString "/claim/cut.py") 524] } : PySem.Obj)) ::
    (nat_lit 222, ({ cls := PySem.Value.type "function", data := PySem.Data.func { name := PySem.Str.ofString "_law_cut", qualname := PySem.Str.ofString "_law_cut", params := ⟨p222x0, p222x1, p222x2, p222x3, p222x4, p222x5, p222x6⟩, body := PySem.FuncBody.stmts (h222 :: t222), scope := ⟨s222x0, s222x1, s222x2, s222x3, s222x4⟩, globals := 3, closure := [], defaults := PySem.Value.none, kwdefaults := PySem.Value.none, pyModule := PySem.Value.str (PySem.Str.ofString "law_no0235_01") 473, code := PySem.Value.ref 221 } } : PySem.Obj)) ::
    (nat_lit 223, ({ cls := PySem.Value.type "tuple", data := PySem.Data.seq #[] } : PySem.Obj)) ::
    (nat_lit 226, ({ cls := PySem.Value.type "code", data := PySem.Data.fields #[PySem.Value.str (PySem.Str.ofString "law") 526, PySem.Value.str (PySem.Str.ofString "law") 527, PySem.Value.str (PySem.Str.ofString "/claim/cut.py") 528, PySem.Value.int 174 0, PySem.Value.int 1 0, PySem.Value.int 0 0, PySem.Value.int 0 0, PySem.Value.int 3 0, PySem.Value.ref 223, PySem.Value.bool true, PySem.Value.int 181 0, PySem.Value.ref 224, PySem.Value.none, PySem.Value.none, PySem.Value.none, PySem.Value.ref 225, PySem.Value.int 529 0, PySem.Value.int 174 0, PySem.Value.str (PySem.Str.ofString "/claim/cut.py") 530] } : PySem.Obj)) ::
    (nat_lit 227, ({ cls := PySem.Value.type "function", data := PySem.Data.func { name := PySem.Str.ofString "law", qualname := PySem.Str.ofString "law", params := ⟨p227x0, p227x1, p227x2, p227x3, p227x4, p227x5, p227x6⟩, body := PySem.FuncBody.stmts (h227 :: t227), scope := ⟨s227x0, s227x1, s227x2, s227x3, s227x4⟩, globals := 3, closure := [], defaults := PySem.Value.none, kwdefaults := PySem.Value.none, pyModule := PySem.Value.str (PySem.Str.ofString "law_no0235_01") 473, code := PySem.Value.ref 226 } } : PySem.Obj)) :: []
/-- the statements that the top's view keeps -/
noncomputable def V0 : PySem.Program := by
  refine' ((?f : ∀ (v1x0 : Str) (v1x1 : List PySem.Expr) (v1x2 : List Keyword) (v1x3 : List Stmt) (v1x4 : List PySem.Expr) (v1x5 : List TypeParam) (v1x6 : Scope) (v1x7 : Option Scope) (v1x8 : Str) (v1x9 : List Str) (v1x10 : Pos) (v2x0 : Str) (v2x1 : List PySem.Expr) (v2x2 : List Keyword) (v2x3 : List Stmt) (v2x4 : List PySem.Expr) (v2x5 : List TypeParam) (v2x6 : Scope) (v2x7 : Option Scope) (v2x8 : Str) (v2x9 : List Str) (v2x10 : Pos) (v4x0 : List PySem.Expr) (v4x1 : PySem.Expr) (v4x2 : Pos) (v5x0 : List PySem.Expr) (v5x1 : PySem.Expr) (v5x2 : Pos) (v6x0 : Str) (v6x1 : Arguments) (v6x2 : List Stmt) (v6x3 : List PySem.Expr) (v6x4 : Option PySem.Expr) (v6x5 : List TypeParam) (v6x6 : Scope) (v6x7 : Option Scope) (v6x8 : Str) (v6x9 : Pos) (v7x0 : Str) (v7x1 : Arguments) (v7x2 : List Stmt) (v7x3 : List PySem.Expr) (v7x4 : Option PySem.Expr) (v7x5 : List TypeParam) (v7x6 : Scope) (v7x7 : Option Scope) (v7x8 : Str) (v7x9 : Pos) (v9x0 : Str) (v9x1 : List PySem.Expr) (v9x2 : List Keyword) (v9x3 : List Stmt) (v9x4 : List PySem.Expr) (v9x5 : List TypeParam) (v9x6 : Scope) (v9x7 : Option Scope) (v9x8 : Str) (v9x9 : List Str) (v9x10 : Pos) (v11x0 : List PySem.Expr) (v11x1 : PySem.Expr) (v11x2 : Pos) (v12x0 : List PySem.Expr) (v12x1 : PySem.Expr) (v12x2 : Pos) (v13x0 : List PySem.Expr) (v13x1 : PySem.Expr) (v13x2 : Pos) (v14x0 : Str) (v14x1 : List PySem.Expr) (v14x2 : List Keyword) (v14x3 : List Stmt) (v14x4 : List PySem.Expr) (v14x5 : List TypeParam) (v14x6 : Scope) (v14x7 : Option Scope) (v14x8 : Str) (v14x9 : List Str) (v14x10 : Pos) (v15x0 : Str) (v15x1 : Arguments) (v15x2 : List Stmt) (v15x3 : List PySem.Expr) (v15x4 : Option PySem.Expr) (v15x5 : List TypeParam) (v15x6 : Scope) (v15x7 : Option Scope) (v15x8 : Str) (v15x9 : Pos) (v16x0 : Str) (v16x1 : Arguments) (v16x2 : List Stmt) (v16x3 : List PySem.Expr) (v16x4 : Option PySem.Expr) (v16x5 : List TypeParam) (v16x6 : Scope) (v16x7 : Option Scope) (v16x8 : Str) (v16x9 : Pos) (v17x0 : Str) (v17x1 : Arguments) (v17x2 : List Stmt) (v17x3 : List PySem.Expr) (v17x4 : Option PySem.Expr) (v17x5 : List TypeParam) (v17x6 : Scope) (v17x7 : Option Scope) (v17x8 : Str) (v17x9 : Pos) (v18x0 : Str) (v18x1 : Arguments) (v18x2 : List Stmt) (v18x3 : List PySem.Expr) (v18x4 : Option PySem.Expr) (v18x5 : List TypeParam) (v18x6 : Scope) (v18x7 : Option Scope) (v18x8 : Str) (v18x9 : Pos) (v19x0 : Str) (v19x1 : Arguments) (v19x2 : List Stmt) (v19x3 : List PySem.Expr) (v19x4 : Option PySem.Expr) (v19x5 : List TypeParam) (v19x6 : Scope) (v19x7 : Option Scope) (v19x8 : Str) (v19x9 : Pos) (v20x0 : Str) (v20x1 : Arguments) (v20x2 : List Stmt) (v20x3 : List PySem.Expr) (v20x4 : Option PySem.Expr) (v20x5 : List TypeParam) (v20x6 : Scope) (v20x7 : Option Scope) (v20x8 : Str) (v20x9 : Pos) (v21x0 : Str) (v21x1 : Arguments) (v21x2 : List Stmt) (v21x3 : List PySem.Expr) (v21x4 : Option PySem.Expr) (v21x5 : List TypeParam) (v21x6 : Scope) (v21x7 : Option Scope) (v21x8 : Str) (v21x9 : Pos) (v22x0 : Str) (v22x1 : Arguments) (v22x2 : List Stmt) (v22x3 : List PySem.Expr) (v22x4 : Option PySem.Expr) (v22x5 : List TypeParam) (v22x6 : Scope) (v22x7 : Option Scope) (v22x8 : Str) (v22x9 : Pos) (v23x0 : Str) (v23x1 : Arguments) (v23x2 : List Stmt) (v23x3 : List PySem.Expr) (v23x4 : Option PySem.Expr) (v23x5 : List TypeParam) (v23x6 : Scope) (v23x7 : Option Scope) (v23x8 : Str) (v23x9 : Pos) (v24x0 : Str) (v24x1 : Arguments) (v24x2 : List Stmt) (v24x3 : List PySem.Expr) (v24x4 : Option PySem.Expr) (v24x5 : List TypeParam) (v24x6 : Scope) (v24x7 : Option Scope) (v24x8 : Str) (v24x9 : Pos) (v25x0 : Str) (v25x1 : Arguments) (v25x2 : List Stmt) (v25x3 : List PySem.Expr) (v25x4 : Option PySem.Expr) (v25x5 : List TypeParam) (v25x6 : Scope) (v25x7 : Option Scope) (v25x8 : Str) (v25x9 : Pos) (v27x0 : List PySem.Expr) (v27x1 : PySem.Expr) (v27x2 : Pos) (v28x0 : Str) (v28x1 : Arguments) (v28x2 : List Stmt) (v28x3 : List PySem.Expr) (v28x4 : Option PySem.Expr) (v28x5 : List TypeParam) (v28x6 : Scope) (v28x7 : Option Scope) (v28x8 : Str) (v28x9 : Pos) (v29x0 : Str) (v29x1 : Arguments) (v29x2 : List Stmt) (v29x3 : List PySem.Expr) (v29x4 : Option PySem.Expr) (v29x5 : List TypeParam) (v29x6 : Scope) (v29x7 : Option Scope) (v29x8 : Str) (v29x9 : Pos) (v30x0 : Str) (v30x1 : Arguments) (v30x2 : List Stmt) (v30x3 : List PySem.Expr) (v30x4 : Option PySem.Expr) (v30x5 : List TypeParam) (v30x6 : Scope) (v30x7 : Option Scope) (v30x8 : Str) (v30x9 : Pos) (v31x0 : Str) (v31x1 : Arguments) (v31x2 : List Stmt) (v31x3 : List PySem.Expr) (v31x4 : Option PySem.Expr) (v31x5 : List TypeParam) (v31x6 : Scope) (v31x7 : Option Scope) (v31x8 : Str) (v31x9 : Pos) (v32x0 : Str) (v32x1 : Arguments) (v32x2 : List Stmt) (v32x3 : List PySem.Expr) (v32x4 : Option PySem.Expr) (v32x5 : List TypeParam) (v32x6 : Scope) (v32x7 : Option Scope) (v32x8 : Str) (v32x9 : Pos) (v33x0 : Str) (v33x1 : Arguments) (v33x2 : List Stmt) (v33x3 : List PySem.Expr) (v33x4 : Option PySem.Expr) (v33x5 : List TypeParam) (v33x6 : Scope) (v33x7 : Option Scope) (v33x8 : Str) (v33x9 : Pos), ForView [PySem.Stmt.ClassDef v1x0 v1x1 v1x2 v1x3 v1x4 v1x5 v1x6 v1x7 v1x8 v1x9 v1x10, PySem.Stmt.ClassDef v2x0 v2x1 v2x2 v2x3 v2x4 v2x5 v2x6 v2x7 v2x8 v2x9 v2x10, PySem.Stmt.Assign v4x0 v4x1 v4x2, PySem.Stmt.Assign v5x0 v5x1 v5x2, PySem.Stmt.FunctionDef v6x0 v6x1 v6x2 v6x3 v6x4 v6x5 v6x6 v6x7 v6x8 v6x9, PySem.Stmt.FunctionDef v7x0 v7x1 v7x2 v7x3 v7x4 v7x5 v7x6 v7x7 v7x8 v7x9, PySem.Stmt.ClassDef v9x0 v9x1 v9x2 v9x3 v9x4 v9x5 v9x6 v9x7 v9x8 v9x9 v9x10, PySem.Stmt.Assign v11x0 v11x1 v11x2, PySem.Stmt.Assign v12x0 v12x1 v12x2, PySem.Stmt.Assign v13x0 v13x1 v13x2, PySem.Stmt.ClassDef v14x0 v14x1 v14x2 v14x3 v14x4 v14x5 v14x6 v14x7 v14x8 v14x9 v14x10, PySem.Stmt.FunctionDef v15x0 v15x1 v15x2 v15x3 v15x4 v15x5 v15x6 v15x7 v15x8 v15x9, PySem.Stmt.FunctionDef v16x0 v16x1 v16x2 v16x3 v16x4 v16x5 v16x6 v16x7 v16x8 v16x9, PySem.Stmt.FunctionDef v17x0 v17x1 v17x2 v17x3 v17x4 v17x5 v17x6 v17x7 v17x8 v17x9, PySem.Stmt.FunctionDef v18x0 v18x1 v18x2 v18x3 v18x4 v18x5 v18x6 v18x7 v18x8 v18x9, PySem.Stmt.FunctionDef v19x0 v19x1 v19x2 v19x3 v19x4 v19x5 v19x6 v19x7 v19x8 v19x9, PySem.Stmt.FunctionDef v20x0 v20x1 v20x2 v20x3 v20x4 v20x5 v20x6 v20x7 v20x8 v20x9, PySem.Stmt.FunctionDef v21x0 v21x1 v21x2 v21x3 v21x4 v21x5 v21x6 v21x7 v21x8 v21x9, PySem.Stmt.FunctionDef v22x0 v22x1 v22x2 v22x3 v22x4 v22x5 v22x6 v22x7 v22x8 v22x9, PySem.Stmt.FunctionDef v23x0 v23x1 v23x2 v23x3 v23x4 v23x5 v23x6 v23x7 v23x8 v23x9, PySem.Stmt.FunctionDef v24x0 v24x1 v24x2 v24x3 v24x4 v24x5 v24x6 v24x7 v24x8 v24x9, PySem.Stmt.FunctionDef v25x0 v25x1 v25x2 v25x3 v25x4 v25x5 v25x6 v25x7 v25x8 v25x9, PySem.Stmt.Assign v27x0 v27x1 v27x2, PySem.Stmt.FunctionDef v28x0 v28x1 v28x2 v28x3 v28x4 v28x5 v28x6 v28x7 v28x8 v28x9, PySem.Stmt.FunctionDef v29x0 v29x1 v29x2 v29x3 v29x4 v29x5 v29x6 v29x7 v29x8 v29x9, PySem.Stmt.FunctionDef v30x0 v30x1 v30x2 v30x3 v30x4 v30x5 v30x6 v30x7 v30x8 v30x9, PySem.Stmt.FunctionDef v31x0 v31x1 v31x2 v31x3 v31x4 v31x5 v31x6 v31x7 v31x8 v31x9, PySem.Stmt.FunctionDef v32x0 v32x1 v32x2 v32x3 v32x4 v32x5 v32x6 v32x7 v32x8 v32x9, PySem.Stmt.FunctionDef v33x0 v33x1 v33x2 v33x3 v33x4 v33x5 v33x6 v33x7 v33x8 v33x9]) _ _ _ _ _ _ _ _ _ _ _ _ _ _ _ _ _ _ _ _ _ _ _ _ _ _ _ _ _ _ _ _ _ _ _ _ _ _ _ _ _ _ _ _ _ _ _ _ _ _ _ _ _ _ _ _ _ _ _ _ _ _ _ _ _ _ _ _ _ _ _ _ _ _ _ _ _ _ _ _ _ _ _ _ _ _ _ _ _ _ _ _ _ _ _ _ _ _ _ _ _ _ _ _ _ _ _ _ _ _ _ _ _ _ _ _ _ _ _ _ _ _ _ _ _ _ _ _ _ _ _ _ _ _ _ _ _ _ _ _ _ _ _ _ _ _ _ _ _ _ _ _ _ _ _ _ _ _ _ _ _ _ _ _ _ _ _ _ _ _ _ _ _ _ _ _ _ _ _ _ _ _ _ _ _ _ _ _ _ _ _ _ _ _ _ _ _ _ _ _ _ _ _ _ _ _ _ _ _ _ _ _ _ _ _ _ _ _ _ _ _ _ _ _ _ _ _ _ _ _ _ _ _ _ _ _ _ _ _ _ _ _ _ _ _ _ _ _ _ _ _ _ : ForView [topS 1, topS 2, topS 4, topS 5, topS 6, topS 7, topS 9, topS 11, topS 12, topS 13, topS 14, topS 15, topS 16, topS 17, topS 18, topS 19, topS 20, topS 21, topS 22, topS 23, topS 24, topS 25, topS 27, topS 28, topS 29, topS 30, topS 31, topS 32, topS 33])
  exact fun v1x0 v1x1 v1x2 v1x3 v1x4 v1x5 v1x6 v1x7 v1x8 v1x9 v1x10 v2x0 v2x1 v2x2 v2x3 v2x4 v2x5 v2x6 v2x7 v2x8 v2x9 v2x10 v4x0 v4x1 v4x2 v5x0 v5x1 v5x2 v6x0 v6x1 v6x2 v6x3 v6x4 v6x5 v6x6 v6x7 v6x8 v6x9 v7x0 v7x1 v7x2 v7x3 v7x4 v7x5 v7x6 v7x7 v7x8 v7x9 v9x0 v9x1 v9x2 v9x3 v9x4 v9x5 v9x6 v9x7 v9x8 v9x9 v9x10 v11x0 v11x1 v11x2 v12x0 v12x1 v12x2 v13x0 v13x1 v13x2 v14x0 v14x1 v14x2 v14x3 v14x4 v14x5 v14x6 v14x7 v14x8 v14x9 v14x10 v15x0 v15x1 v15x2 v15x3 v15x4 v15x5 v15x6 v15x7 v15x8 v15x9 v16x0 v16x1 v16x2 v16x3 v16x4 v16x5 v16x6 v16x7 v16x8 v16x9 v17x0 v17x1 v17x2 v17x3 v17x4 v17x5 v17x6 v17x7 v17x8 v17x9 v18x0 v18x1 v18x2 v18x3 v18x4 v18x5 v18x6 v18x7 v18x8 v18x9 v19x0 v19x1 v19x2 v19x3 v19x4 v19x5 v19x6 v19x7 v19x8 v19x9 v20x0 v20x1 v20x2 v20x3 v20x4 v20x5 v20x6 v20x7 v20x8 v20x9 v21x0 v21x1 v21x2 v21x3 v21x4 v21x5 v21x6 v21x7 v21x8 v21x9 v22x0 v22x1 v22x2 v22x3 v22x4 v22x5 v22x6 v22x7 v22x8 v22x9 v23x0 v23x1 v23x2 v23x3 v23x4 v23x5 v23x6 v23x7 v23x8 v23x9 v24x0 v24x1 v24x2 v24x3 v24x4 v24x5 v24x6 v24x7 v24x8 v24x9 v25x0 v25x1 v25x2 v25x3 v25x4 v25x5 v25x6 v25x7 v25x8 v25x9 v27x0 v27x1 v27x2 v28x0 v28x1 v28x2 v28x3 v28x4 v28x5 v28x6 v28x7 v28x8 v28x9 v29x0 v29x1 v29x2 v29x3 v29x4 v29x5 v29x6 v29x7 v29x8 v29x9 v30x0 v30x1 v30x2 v30x3 v30x4 v30x5 v30x6 v30x7 v30x8 v30x9 v31x0 v31x1 v31x2 v31x3 v31x4 v31x5 v31x6 v31x7 v31x8 v31x9 v32x0 v32x1 v32x2 v32x3 v32x4 v32x5 v32x6 v32x7 v32x8 v32x9 v33x0 v33x1 v33x2 v33x3 v33x4 v33x5 v33x6 v33x7 v33x8 v33x9 => { PySem.Challenge.pw_no0235_01 with main := { PySem.Challenge.pw_no0235_01.main with body := [PySem.Stmt.ClassDef v1x0 v1x1 v1x2 v1x3 v1x4 v1x5 v1x6 v1x7 v1x8 v1x9 v1x10, PySem.Stmt.ClassDef v2x0 v2x1 v2x2 v2x3 v2x4 v2x5 v2x6 v2x7 v2x8 v2x9 v2x10, PySem.Stmt.Assign v4x0 v4x1 v4x2, PySem.Stmt.Assign v5x0 v5x1 v5x2, PySem.Stmt.FunctionDef v6x0 v6x1 v6x2 v6x3 v6x4 v6x5 v6x6 v6x7 v6x8 v6x9, PySem.Stmt.FunctionDef v7x0 v7x1 v7x2 v7x3 v7x4 v7x5 v7x6 v7x7 v7x8 v7x9, PySem.Stmt.ClassDef v9x0 v9x1 v9x2 v9x3 v9x4 v9x5 v9x6 v9x7 v9x8 v9x9 v9x10, PySem.Stmt.Assign v11x0 v11x1 v11x2, PySem.Stmt.Assign v12x0 v12x1 v12x2, PySem.Stmt.Assign v13x0 v13x1 v13x2, PySem.Stmt.ClassDef v14x0 v14x1 v14x2 v14x3 v14x4 v14x5 v14x6 v14x7 v14x8 v14x9 v14x10, PySem.Stmt.FunctionDef v15x0 v15x1 v15x2 v15x3 v15x4 v15x5 v15x6 v15x7 v15x8 v15x9, PySem.Stmt.FunctionDef v16x0 v16x1 v16x2 v16x3 v16x4 v16x5 v16x6 v16x7 v16x8 v16x9, PySem.Stmt.FunctionDef v17x0 v17x1 v17x2 v17x3 v17x4 v17x5 v17x6 v17x7 v17x8 v17x9, PySem.Stmt.FunctionDef v18x0 v18x1 v18x2 v18x3 v18x4 v18x5 v18x6 v18x7 v18x8 v18x9, PySem.Stmt.FunctionDef v19x0 v19x1 v19x2 v19x3 v19x4 v19x5 v19x6 v19x7 v19x8 v19x9, PySem.Stmt.FunctionDef v20x0 v20x1 v20x2 v20x3 v20x4 v20x5 v20x6 v20x7 v20x8 v20x9, PySem.Stmt.FunctionDef v21x0 v21x1 v21x2 v21x3 v21x4 v21x5 v21x6 v21x7 v21x8 v21x9, PySem.Stmt.FunctionDef v22x0 v22x1 v22x2 v22x3 v22x4 v22x5 v22x6 v22x7 v22x8 v22x9, PySem.Stmt.FunctionDef v23x0 v23x1 v23x2 v23x3 v23x4 v23x5 v23x6 v23x7 v23x8 v23x9, PySem.Stmt.FunctionDef v24x0 v24x1 v24x2 v24x3 v24x4 v24x5 v24x6 v24x7 v24x8 v24x9, PySem.Stmt.FunctionDef v25x0 v25x1 v25x2 v25x3 v25x4 v25x5 v25x6 v25x7 v25x8 v25x9, PySem.Stmt.Assign v27x0 v27x1 v27x2, PySem.Stmt.FunctionDef v28x0 v28x1 v28x2 v28x3 v28x4 v28x5 v28x6 v28x7 v28x8 v28x9, PySem.Stmt.FunctionDef v29x0 v29x1 v29x2 v29x3 v29x4 v29x5 v29x6 v29x7 v29x8 v29x9, PySem.Stmt.FunctionDef v30x0 v30x1 v30x2 v30x3 v30x4 v30x5 v30x6 v30x7 v30x8 v30x9, PySem.Stmt.FunctionDef v31x0 v31x1 v31x2 v31x3 v31x4 v31x5 v31x6 v31x7 v31x8 v31x9, PySem.Stmt.FunctionDef v32x0 v32x1 v32x2 v32x3 v32x4 v32x5 v32x6 v32x7 v32x8 v32x9, PySem.Stmt.FunctionDef v33x0 v33x1 v33x2 v33x3 v33x4 v33x5 v33x6 v33x7 v33x8 v33x9] } }
def keys0 : List Nat := 2 :: 3 :: 15 :: 22 :: 24 :: 25 :: 27 :: 28 :: 29 :: 30 :: 31 :: 32 :: 35 :: 42 :: 44 :: 45 :: 47 :: 48 :: 49 :: 50 :: 51 :: 54 :: 56 :: 57 :: 59 :: 60 :: 61 :: 63 :: 64 :: 66 :: 67 :: 75 :: 76 :: 78 :: 79 :: 81 :: 82 :: 83 :: 84 :: 85 :: 86 :: 87 :: 97 :: 99 :: 100 :: 102 :: 103 :: 104 :: 105 :: 106 :: 107 :: 108 :: 111 :: 113 :: 114 :: 116 :: 117 :: 118 :: 120 :: 121 :: 123 :: 124 :: 125 :: 127 :: 128 :: 130 :: 131 :: 132 :: 134 :: 135 :: 137 :: 138 :: 139 :: 141 :: 142 :: 144 :: 145 :: 146 :: 148 :: 149 :: 151 :: 152 :: 153 :: 155 :: 156 :: 158 :: 159 :: 160 :: 162 :: 163 :: 165 :: 166 :: 167 :: 169 :: 170 :: 172 :: 173 :: 174 :: 176 :: 177 :: 179 :: 180 :: 181 :: 183 :: 184 :: 186 :: 187 :: 188 :: 190 :: 191 :: 193 :: 194 :: 195 :: 197 :: 198 :: 200 :: 201 :: 202 :: 204 :: 205 :: 207 :: 208 :: 209 :: 211 :: 212 :: 214 :: 215 :: 216 :: 218 :: 219 :: 221 :: 222 :: 223 :: 226 :: 227 :: []

theorem runs_toks {M : Model} {Γ : PySem.Ctx} {p : Pos} {t : Sem Fin} {fs : List Frame} {s s' : Shared} {e : End} (h : Runs M Γ p t fs s e s') : s.toks ≤ s'.toks := by
  induction h <;> (try simp only [Shared.setGen] at *) <;> omega

theorem wakes_toks {M : Model} {Γ : PySem.Ctx} {p : Pos} {g : Nat} {r : Resume} {s s' : Shared} {res : GenResult} (h : Wakes M Γ p g r s res s') : s.toks ≤ s'.toks := by
  unfold Wakes at h
  split at h
  · exact h.elim
  · split at h
    · obtain ⟨e₁, s₁, h1, _, _, rfl⟩ := h
      exact (show s.toks ≤ s₁.toks from runs_toks (s := s.setGen g .running) h1)
    · obtain ⟨_, rfl⟩ := h; exact Nat.le_refl _
    · obtain ⟨_, rfl⟩ := h; exact Nat.le_refl _
  · obtain ⟨e₁, s₁, h1, _, _, rfl⟩ := h
    exact (show s.toks ≤ s₁.toks from runs_toks (s := s.setGen g .running) h1)
  · obtain ⟨_, rfl⟩ := h; exact Nat.le_refl _
  · obtain ⟨_, rfl⟩ := h; exact Nat.le_refl _

theorem wp_toks {α : Type} {M : Model} {Γ : PySem.Ctx} (t : Sem α) : ∀ {Q : α → Pos → Shared → Prop} {E : Value → Pos → Shared → Prop} {p : Pos} {s : Shared} (n : Nat), n ≤ s.toks → Sem.wp M Γ t Q E p s →
    Sem.wp M Γ t (fun a p' s' => n ≤ s'.toks ∧ Q a p' s') (fun e p' s' => n ≤ s'.toks ∧ E e p' s') p s := by
  induction t with
  | pure a => intro Q E p s n hn h; exact ⟨hn, h⟩
  | raise a => intro Q E p s n hn h; exact ⟨hn, h⟩
  | fresh k ih => intro Q E p s n hn h; exact ih _ n (Nat.le_succ_of_le hn) h
  | load a part k ih => intro Q E p s n hn h; obtain ⟨o, ho, h⟩ := h; exact ⟨o, ho, ih _ n hn h⟩
  | update a part f k ih => intro Q E p s n hn h; exact ⟨h.1, ih _ n hn h.2⟩
  | choose src m k ih => intro Q E p s n hn h; exact ⟨h.1, ih _ n hn h.2⟩
  | genState g k ih => intro Q E p s n hn h; obtain ⟨o, ho, h⟩ := h; exact ⟨o, ho, ih _ n hn h⟩
  | call c hd g l k ih =>
    intro Q E p s n hn h
    obtain ⟨r, s', hr, h⟩ := h
    exact ⟨r, s', hr, ih _ n (Nat.le_trans hn (runs_toks hr)) h⟩
  | resume g r l k ih =>
    intro Q E p s n hn h
    obtain ⟨r, s', hr, h⟩ := h
    exact ⟨r, s', hr, ih _ n (Nat.le_trans hn (wakes_toks hr)) h⟩
  | _ => first | (intro Q E p s n hn h; exact h.elim) | (rename_i ih; intro Q E p s n hn h; exact ih _ n hn h)

theorem wpAny_toks {α : Type} {M : Model} {A : Around} {t : Sem α} {Q : α → Shared → Prop} {E : Value → Shared → Prop} {s : Shared} (h : wpAny M A t Q E s) :
    wpAny M A t (fun a s' => s.toks ≤ s'.toks ∧ Q a s') (fun e s' => s.toks ≤ s'.toks ∧ E e s') s := fun Γ p hΓ => wp_toks t s.toks (Nat.le_refl _) (h Γ p hΓ)
theorem wpAny_toksQ {α : Type} {M : Model} {A : Around} {t : Sem α} {Q : α → Shared → Prop} {E : Value → Shared → Prop} {s : Shared} (h : wpAny M A t Q E s) :
    wpAny M A t (fun a s' => s.toks ≤ s'.toks ∧ Q a s') E s := wpAny_mono (wpAny_toks h) (fun _ _ x => x) fun _ _ x => x.2
theorem wpAny_tk {α : Type} {M : Model} {A : Around} {t : Sem α} {Q : α → Shared → Prop} {E : Value → Shared → Prop} {s : Shared}
    (h : wpAny M A t (fun a s' => s.toks ≤ s'.toks → Q a s') E s) : wpAny M A t Q E s :=
  wpAny_mono (wpAny_toks h) (fun _ _ x => x.2 x.1) fun _ _ x => x.2

theorem gen_tk {α : Type} {M : Model} {A : Around} {t : Sem α} {Q : α → Shared → Prop} {E : Value → Shared → Prop} {h : Heap} {g : Array GenState} {d : Drawn} {tk : Nat} {os : OsState} (hpos : 0 < tk)
    (H : ∀ tk', 0 < tk' → wpAny M A t Q E ⟨h, g, d, tk', os⟩) : wpAny M A t Q E ⟨h, g, d, tk, os⟩ := H tk hpos

section
variable {prog : Program} {w : World} {A : Around} {E : Value → Shared → Prop} {s : Shared} {h₀ : Heap} {L l : Addr} {news : List (Addr × Obj)}
theorem len_L {vs : List Value} {n : Nat} {Q : Value → Shared → Prop} (N : News h₀ L s.heap news) (hm : (l, listOf vs.toArray n) ∈ news) (hz : (vs.length : Int) < 2 ^ 63)
    (h : Q (.int (vs.length : Int) (s.toks + 1)) { s with toks := s.toks + 1 + 1 }) : wpAny (model prog w) A (call (.builtin "len") [.ref l]) Q E s := by
  have e : ((vs.toArray.size : Nat) : Int) = (vs.length : Int) := by simp
  exact PyProof.Rows.len_list (News.isList N hm) (by rw [e]; exact hz) (by rw [e]; exact h)
end

/-- the loop, any target, the turn told that the token count has not fallen -/
def LoopT (prog : Program) (w : World) (A : Around) (env : Env) (target : Expr) (body : List Stmt) (Q : Flow → Shared → Prop) (E : Value → Shared → Prop) (it : Value) (s₂ : Shared) : Prop :=
  codeAny (model prog w) A (.forLoop target it body [] env) (fun r s' => match r with | .ok f => Q f s' | .error e => cameBackBy (model prog w) A env E e s') s₂

section
variable {prog : Program} {w : World} {A : Around} {E : Value → Shared → Prop} {s : Shared} {env : Env} {h₀ : Heap} {target : Expr} {body : List Stmt} {Q : Flow → Shared → Prop}
theorem For_T {iter : Expr} {pos : Pos}
    (h : wpAny (model prog w) A (eval iter env) (fun xv s₁ => wpAny (model prog w) A (pyIter xv) (fun it s₂ => LoopT prog w A env target body Q E it s₂) E s₁) E s)
    (hs : ∀ x, foldedSetIterable iter env x = pure x := by intro _; rfl) :
    wpAny (model prog w) A (exec (.For target iter body [] pos) env) Q E s := wpAny_For h hs

def TurnEnd (h₀ : Heap) (L : Addr) (wr : List Addr) (own : List (Addr × Obj)) (Jn : (Str → Option Value) → List (Addr × Obj) → Prop) (s₁ : Shared) (Q : Flow → Shared → Prop) (f : Flow) (s₂ : Shared) : Prop :=
  match f with
  | .ret v => Q (.ret v) s₂
  | .brk => Q .next s₂
  | _ => ∃ h' tk m₂ news₂, s₂ = { s₁ with heap := h', toks := tk } ∧ Fr h₀ L h' m₂ ∧ News h₀ L h' (own ++ news₂) ∧ (∀ p ∈ news₂, p.1 ∉ wr) ∧ Jn m₂ news₂

theorem loop_core {I : Addr} {fp wr : List Addr} {n : Nat} {P : Nat → Value → Prop} {St : Nat → Heap → Prop} {m : Str → Option Value} {news : List (Addr × Obj)} (W : Walks prog w A I fp wr n P St)
    (hgo : ∀ i v (s : Shared) (Q : Unit → Shared → Prop) (E : Value → Shared → Prop), St i s.heap → Q () s → wpAny (model prog w) A (letOwnedTupleGo target (.ref I) v) Q E s)
    (hE : PassesOwn (model prog w) A env E)
    (hLf : env.locals ∉ fp) (hwr : ∀ b ∈ wr, h₀.get? b = none) (hnw : ∀ p ∈ news, p.1 ∉ wr) (hst : St 0 s.heap) (F : Fr h₀ env.locals s.heap m) (N : News h₀ env.locals s.heap news)
    (J : Nat → (Str → Option Value) → List (Addr × Obj) → Prop) (h0 : J 0 m news)
    (step : ∀ i v m₁ news₁ h₁ tk₁ own, s.toks ≤ tk₁ → i < n → P i v → J i m₁ news₁ → (∀ p ∈ news₁, p.1 ∉ wr) → (∀ p ∈ own, p.1 ∈ fp) → (∀ p ∈ own, h₁.get? p.1 = some p.2) → (∀ b ∈ fp, h₀.get? b = none → ∀ o, h₁.get? b = some o → (b, o) ∈ own) → St (i + 1) h₁ →
      Fr h₀ env.locals h₁ m₁ → News h₀ env.locals h₁ (own ++ news₁) →
      wpAny (model prog w) A (assign target env v) (fun _ s₂ => wpAny (model prog w) A (execs body env) (TurnEnd h₀ env.locals wr own (J (i + 1)) { s with heap := h₁, toks := tk₁ } Q) E s₂) E { s with heap := h₁, toks := tk₁ })
    (hR : ∀ h' tk m' news', s.toks ≤ tk → Fr h₀ env.locals h' m' → News h₀ env.locals h' news' → (∀ p ∈ news', p.1 ∉ wr) → J n m' news' → Q .next { s with heap := h', toks := tk }) :
    LoopT prog w A env target body Q E (.ref I) s := by
  have hLw : env.locals ∉ wr := fun h => hLf (W.sub _ h)
  have old : ∀ b o, h₀.get? b = some o → b ∉ wr := fun b o e hb => by rw [hwr b hb] at e; cases e
  refine codeAny_forLoop_any
    (fun k s' => ∃ h' tk m' news' i, s' = { s with heap := h', toks := tk } ∧ s.toks ≤ tk ∧ St i h' ∧ Fr h₀ env.locals h' m' ∧ News h₀ env.locals h' news' ∧ (∀ p ∈ news', p.1 ∉ wr) ∧ J i m' news' ∧ i ≤ n ∧ k = n + 1 - i) ?_ (n + 1)
    ⟨s.heap, s.toks, m, news, 0, rfl, Nat.le_refl _, hst, F, N, hnw, h0, Nat.zero_le _, rfl⟩
  rintro k s' ⟨h', tk, m', news', i, rfl, htk, hst', F', N', hnw', hJ, hi, rfl⟩
  have next : ∀ h₁ : Heap, (∀ b o, b ∉ wr → h'.get? b = some o → h₁.get? b = some o) → Fr h₀ env.locals h₁ m' ∧ News h₀ env.locals h₁ news' := fun h₁ hk₁ =>
    ⟨⟨F'.ns.at' fun o e => hk₁ _ o hLw e, fun b o e => hk₁ b o (old b o e) (F'.keep b o e), F'.above⟩, fun p hp => ⟨hk₁ _ _ (hnw' p hp) (N' p hp).1, (N' p hp).2⟩⟩
  by_cases hlt : i < n
  · refine wpAny_tk (W.item i _ _ _ hlt hst' fun v h₁ tk₁ hP hst₁ hk₁ htk₁ => ?_)
    have htk₁' : s.toks ≤ tk₁ := Nat.le_trans htk htk₁
    refine hgo (i + 1) v _ _ _ hst₁ ?_
    obtain ⟨F₂, N₂⟩ := next h₁ hk₁
    have Nown : News h₀ env.locals h₁ (PyProof.Rows.ownOf h₀ fp h₁) := news_ownOf hLf
    have key := step i v m' news' h₁ tk₁ (PyProof.Rows.ownOf h₀ fp h₁) htk₁' hlt hP hJ hnw' ownOf_sub (fun p hp => (Nown p hp).1) (fun b hb hn o e => mem_ownOf hb hn e) hst₁ F₂ (Nown.append N₂)
    refine wpAny_mono (wpAny_toksQ key) (fun _ s₂ h₂' => wpAny_mono (wpAny_toksQ h₂'.2) (fun f s₃ h₃ => ?_) hE) hE
    obtain ⟨ht₂, _⟩ := h₂'
    obtain ⟨ht₃, h₃⟩ := h₃
    have fin : (∃ h' tk m₂ news₂, s₃ = { s with heap := h', toks := tk } ∧ Fr h₀ env.locals h' m₂ ∧ News h₀ env.locals h' (PyProof.Rows.ownOf h₀ fp h₁ ++ news₂) ∧ (∀ p ∈ news₂, p.1 ∉ wr) ∧ J (i + 1) m₂ news₂) →
        ∃ m, m < n + 1 - i ∧ ∃ h' tk m' news' i, s₃ = { s with heap := h', toks := tk } ∧ s.toks ≤ tk ∧ St i h' ∧ Fr h₀ env.locals h' m' ∧ News h₀ env.locals h' news' ∧ (∀ p ∈ news', p.1 ∉ wr) ∧ J i m' news' ∧ i ≤ n ∧ m = n + 1 - i := by
      rintro ⟨h₃', tk₃, m₂, news₂, rfl, F₃, N₃, ha₃, hJ₃⟩
      refine ⟨n + 1 - (i + 1), by omega, h₃', tk₃, m₂, news₂, i + 1, rfl, Nat.le_trans (Nat.le_trans htk₁' ht₂) ht₃, ?_, F₃, N₃.right, ha₃, hJ₃, hlt, rfl⟩
      refine W.frame _ _ _ hst₁ fun b hb o e => ?_
      cases hn : h₀.get? b with
      | some o₀ =>
        have : o₀ = o := by have q := F₂.keep b o₀ hn; rw [e] at q; exact (Option.some.inj q).symm
        exact this ▸ F₃.keep b o₀ hn
      | none => exact (N₃ _ (List.mem_append_left _ (mem_ownOf hb hn e))).1
    cases f with
    | ret v => exact h₃
    | brk => exact h₃
    | cont => exact fin h₃
    | next => exact fin h₃
  · have hin : i = n := by omega
    subst hin
    refine wpAny_tk (W.done _ _ _ hst' fun h₁ tk₁ hk₁ htk₁ => wpAny_execs_nil ?_)
    obtain ⟨F₁, N₁⟩ := next h₁ hk₁
    exact hR h₁ tk₁ m' news' (Nat.le_trans htk htk₁) F₁ N₁ hnw' hJ

/-- the end of a turn: e is the iterator's own object, keep what must stand -/
def EndT (h₀ : Heap) (L : Addr) (e : Addr × Obj) (keep : List (Addr × Obj)) (Jn : (Str → Option Value) → List (Addr × Obj) → Prop) (s₁ : Shared) (Q : Flow → Shared → Prop) (f : Flow) (s₂ : Shared) : Prop :=
  match f with
  | .ret v => Q (.ret v) s₂
  | .brk => Q .next s₂
  | _ => ∃ h' tk m₂ nx, s₂ = { s₁ with heap := h', toks := tk } ∧ Fr h₀ L h' m₂ ∧ News h₀ L h' (e :: nx) ∧ (∀ p ∈ keep, p ∈ nx) ∧ (∀ p ∈ nx, p.1 ≠ e.1) ∧ Jn m₂ nx

theorem loop_one {I : Addr} {n : Nat} {P : Nat → Value → Prop} {St : Nat → Heap → Prop} {m : Str → Option Value} {news : List (Addr × Obj)} (W : Walks prog w A I [I] [I] n P St)
    (hgo : ∀ i v (s : Shared) (Q : Unit → Shared → Prop) (E : Value → Shared → Prop), St i s.heap → Q () s → wpAny (model prog w) A (letOwnedTupleGo target (.ref I) v) Q E s)
    (hE : PassesOwn (model prog w) A env E) (hob : ∀ i h, St i h → ∃ o, h.get? I = some o)
    (hLf : env.locals ≠ I) (hwr : h₀.get? I = none) (hnw : ∀ p ∈ news, p.1 ≠ I) (hst : St 0 s.heap) (F : Fr h₀ env.locals s.heap m) (N : News h₀ env.locals s.heap news)
    (J : Nat → (Str → Option Value) → List (Addr × Obj) → Prop) (h0 : J 0 m news)
    (turn : ∀ i v m₁ nx h tk oI, i < n → P i v → s.toks ≤ tk → (∀ p ∈ nx, p.1 ≠ I) → J i m₁ nx → Fr h₀ env.locals h m₁ → News h₀ env.locals h ((I, oI) :: nx) →
      wpAny (model prog w) A (assign target env v) (fun _ s₂ => wpAny (model prog w) A (execs body env) (EndT h₀ env.locals (I, oI) [] (J (i + 1)) { s with heap := h, toks := tk } Q) E s₂) E { s with heap := h, toks := tk })
    (done : ∀ m₁ nx h tk, s.toks ≤ tk → J n m₁ nx → Fr h₀ env.locals h m₁ → News h₀ env.locals h nx → Q .next { s with heap := h, toks := tk }) :
    LoopT prog w A env target body Q E (.ref I) s := by
  refine loop_core W hgo hE (by simpa using hLf) (fun b hb => by rw [List.mem_singleton.mp hb]; exact hwr) (fun p hp hq => hnw p hp (List.mem_singleton.mp hq)) hst F N J h0 ?_ ?_
  · intro i v m₁ nx h₁ tk₁ own htk hi hP hJ hoff hown hget hall hst₁ F₁ N₁
    obtain ⟨oI, hoI⟩ := hob _ _ hst₁
    have hin : (I, oI) ∈ own := hall I (List.mem_singleton.mpr rfl) hwr oI hoI
    have hown' : ∀ p ∈ own, p = (I, oI) := fun p hp => by
      have e1 : p.1 = I := List.mem_singleton.mp (hown p hp)
      have e2 := hget p hp
      rw [e1, hoI] at e2
      exact Prod.ext e1 (Option.some.inj e2).symm
    have N₂ : News h₀ env.locals h₁ ((I, oI) :: nx) := fun p hp => by
      rcases List.mem_cons.mp hp with rfl | hp
      · exact N₁ _ (List.mem_append_left _ hin)
      · exact N₁ _ (List.mem_append_right _ hp)
    have hoff' : ∀ p ∈ nx, p.1 ≠ I := fun p hp e => hoff p hp (List.mem_singleton.mpr e)
    refine wpAny_mono (turn i v m₁ nx h₁ tk₁ oI hi hP htk hoff' hJ F₁ N₂) (fun _ s₂ h₂ => wpAny_mono h₂ (fun f s₃ h₃ => ?_) fun _ _ x => x) fun _ _ x => x
    have fin : (∃ h' tk m₂ nx', s₃ = { s with heap := h', toks := tk } ∧ Fr h₀ env.locals h' m₂ ∧ News h₀ env.locals h' ((I, oI) :: nx') ∧ (∀ p ∈ ([] : List (Addr × Obj)), p ∈ nx') ∧ (∀ p ∈ nx', p.1 ≠ I) ∧ J (i + 1) m₂ nx') →
        ∃ h' tk m₂ news₂, s₃ = { s with heap := h', toks := tk } ∧ Fr h₀ env.locals h' m₂ ∧ News h₀ env.locals h' (own ++ news₂) ∧ (∀ p ∈ news₂, p.1 ∉ [I]) ∧ J (i + 1) m₂ news₂ := by
      rintro ⟨h', tk, m₂, nx', e, F', N', _, ho, hJ'⟩
      refine ⟨h', tk, m₂, nx', e, F', fun p hp => ?_, fun p hp hq => ho p hp (List.mem_singleton.mp hq), hJ'⟩
      rcases List.mem_append.mp hp with hp | hp
      · rw [hown' p hp]; exact N' _ (.head _)
      · exact N' _ (.tail _ hp)
    cases f with
    | ret v => exact h₃
    | brk => exact h₃
    | cont => exact fin h₃
    | next => exact fin h₃
  · intro h' tk m' nx htk F' N' _ hJ
    exact done m' nx h' tk htk hJ F' N'

theorem loop_list {l : Addr} {vs : List Value} {nn : Nat} {m : Str → Option Value} {news : List (Addr × Obj)} (J : Nat → (Str → Option Value) → List (Addr × Obj) → Prop)
    (hh : A.handled = none) (hE : PassesOwn (model prog w) A env E) (hl : (l, listOf vs.toArray nn) ∈ news) (F : Fr h₀ env.locals s.heap m) (N : News h₀ env.locals s.heap news) (h0 : J 0 m news)
    (turn : ∀ i v m₁ nx h tk I oI, vs[i]? = some v → s.toks ≤ tk → (l, listOf vs.toArray nn) ∈ nx → (∀ p ∈ nx, p.1 ≠ I) → J i m₁ nx → Fr h₀ env.locals h m₁ → News h₀ env.locals h ((I, oI) :: nx) →
      wpAny (model prog w) A (assign target env v) (fun _ s₂ => wpAny (model prog w) A (execs body env) (EndT h₀ env.locals (I, oI) [(l, listOf vs.toArray nn)] (J (i + 1)) { s with heap := h, toks := tk } Q) E s₂) E { s with heap := h, toks := tk })
    (done : ∀ m₁ nx h tk, s.toks ≤ tk → J vs.length m₁ nx → Fr h₀ env.locals h m₁ → News h₀ env.locals h nx → Q .next { s with heap := h, toks := tk }) :
    wpAny (model prog w) A (pyIter (.ref l)) (fun it s₂ => LoopT prog w A env target body Q E it s₂) E s := by
  have hol : s.heap.get? l = some (listOf vs.toArray nn) := (N _ hl).1
  have hls : s.heap.IsList l vs.toArray := ⟨_, hol, rfl, nn, rfl⟩
  have hne : l ≠ s.heap.objs.size := Nat.ne_of_lt (Heap.lt_size hol)
  refine wpAny_pyIter_list hls ?_
  have W := Walks.list (prog := prog) (w := w) hh s.heap.objs.size l hne vs.toArray
  have hlen : vs.toArray.size = vs.length := by simp
  rw [hlen] at W
  refine loop_core (h₀ := h₀) (m := m) (news := news) W (fun i v s Q E st q => letGo_listiter st.1 q) hE ?_ ?_ ?_ ⟨⟨_, Heap.get?_push_size _ rfl, rfl, rfl⟩, hls.at fun o e => Heap.get?_push_of_some _ e⟩ (F.push _) (fun p hp => ⟨Heap.get?_push_of_some _ (N p hp).1, (N p hp).2⟩)
    (fun i m nx => (l, listOf vs.toArray nn) ∈ nx ∧ J i m nx) ⟨hl, h0⟩ ?_ ?_
  · intro hm
    rcases List.mem_cons.mp hm with e | hm
    · exact absurd F.ns.lt (e ▸ Nat.lt_irrefl _)
    · exact (N _ hl).2.1 ((List.mem_singleton.mp hm).symm)
  · intro b hb
    rw [List.mem_singleton.mp hb]
    exact next_is_new F
  · intro p hp hI
    exact absurd (Heap.lt_size (N p hp).1) ((List.mem_singleton.mp hI) ▸ Nat.lt_irrefl _)
  · rintro i v m₁ nx h₁ tk₁ own htk hi hP ⟨hl₁, hJ⟩ hoff hown hget hall hst₁ F₁ N₁
    have hP' : vs[i]? = some v := by simpa using hP
    have hI0 : h₀.get? s.heap.objs.size = none := next_is_new F
    obtain ⟨⟨oI, hoI, _⟩, _⟩ := id hst₁
    have hin : (s.heap.objs.size, oI) ∈ own := hall _ (List.mem_cons.mpr (.inl rfl)) hI0 oI hoI
    have hlo : h₁.get? l = some (listOf vs.toArray nn) := (N₁ _ (List.mem_append.mpr (.inr hl₁))).1
    have hown' : ∀ p ∈ own, p = (s.heap.objs.size, oI) ∨ p = (l, listOf vs.toArray nn) := fun p hp => by
      have e2 := hget p hp
      rcases List.mem_cons.mp (hown p hp) with e1 | e1
      · rw [e1, hoI] at e2
        exact .inl (Prod.ext e1 (Option.some.inj e2).symm)
      · rw [List.mem_singleton.mp e1, hlo] at e2
        exact .inr (Prod.ext (List.mem_singleton.mp e1) (Option.some.inj e2).symm)
    have N₂ : News h₀ env.locals h₁ ((s.heap.objs.size, oI) :: nx) := fun p hp => by
      rcases List.mem_cons.mp hp with rfl | hp
      · exact N₁ _ (List.mem_append_left _ hin)
      · exact N₁ _ (List.mem_append_right _ hp)
    have hoff' : ∀ p ∈ nx, p.1 ≠ s.heap.objs.size := fun p hp e => hoff p hp (List.mem_singleton.mpr e)
    refine wpAny_mono (turn i v m₁ nx h₁ tk₁ _ oI hP' htk hl₁ hoff' hJ F₁ N₂) (fun _ s₂ h₂ => wpAny_mono h₂ (fun f s₃ h₃ => ?_) fun _ _ x => x) fun _ _ x => x
    have fin : (∃ h' tk m₂ nx', s₃ = { s with heap := h', toks := tk } ∧ Fr h₀ env.locals h' m₂ ∧ News h₀ env.locals h' ((s.heap.objs.size, oI) :: nx') ∧ (∀ p ∈ [(l, listOf vs.toArray nn)], p ∈ nx') ∧ (∀ p ∈ nx', p.1 ≠ s.heap.objs.size) ∧ J (i + 1) m₂ nx') →
        ∃ h' tk m₂ news₂, s₃ = { s with heap := h', toks := tk } ∧ Fr h₀ env.locals h' m₂ ∧ News h₀ env.locals h' (own ++ news₂) ∧ (∀ p ∈ news₂, p.1 ∉ [s.heap.objs.size]) ∧ (l, listOf vs.toArray nn) ∈ news₂ ∧ J (i + 1) m₂ news₂ := by
      rintro ⟨h', tk, m₂, nx', e, F', N', hk, ho, hJ'⟩
      refine ⟨h', tk, m₂, nx', e, F', fun p hp => ?_, fun p hp hq => ho p hp (List.mem_singleton.mp hq), hk _ (.head _), hJ'⟩
      rcases List.mem_append.mp hp with hp | hp
      · rcases hown' p hp with e | e
        · rw [e]; exact N' _ (.head _)
        · rw [e]; exact N' _ (.tail _ (hk _ (.head _)))
      · exact N' _ (.tail _ hp)
    cases f with
    | ret v => exact h₃
    | brk => exact h₃
    | cont => exact fin h₃
    | next => exact fin h₃
  · intro h' tk m' nx htk F' N' _ hJ
    exact done m' nx h' tk htk hJ.2 F' N'

theorem loop_range {x : Str} {px : Pos} {r : Addr} {a₀ b₀ : Int} {t₀ u₀ v₀ : Tok} {n : Nat} {m : Str → Option Value} {news : List (Addr × Obj)} (J : Nat → (Str → Option Value) → List (Addr × Obj) → Prop)
    (hh : A.handled = none) (hE : PassesOwn (model prog w) A env E) (hr : IsRange s.heap r a₀ b₀ 1 t₀ u₀ v₀) (hsmall : Builtin.Range.small a₀ b₀ 1 = true) (hn : Builtin.Range.rangeSize a₀ b₀ 1 = (n : Int)) (F : Fr h₀ env.locals s.heap m) (N : News h₀ env.locals s.heap news) (h0 : J 0 m news)
    (turn : ∀ (i : Nat) t m₁ nx h tk I oI, i < n → s.toks ≤ tk → (∀ p ∈ nx, p.1 ≠ I) → J i m₁ nx → Fr h₀ env.locals h m₁ → News h₀ env.locals h ((I, oI) :: nx) →
      wpAny (model prog w) A (assign (.Name x px) env (.int (a₀ + i) t)) (fun _ s₂ => wpAny (model prog w) A (execs body env) (EndT h₀ env.locals (I, oI) [] (J (i + 1)) { s with heap := h, toks := tk } Q) E s₂) E { s with heap := h, toks := tk })
    (done : ∀ m₁ nx h tk, s.toks ≤ tk → J n m₁ nx → Fr h₀ env.locals h m₁ → News h₀ env.locals h nx → Q .next { s with heap := h, toks := tk }) :
    wpAny (model prog w) A (pyIter (.ref r)) (fun it s₂ => LoopT prog w A env (.Name x px) body Q E it s₂) E s := by
  refine wpAny_pyIter_range hr hsmall ?_
  have W : Walks prog w A s.heap.objs.size [s.heap.objs.size] [s.heap.objs.size] n (fun i v => i < n ∧ ∃ t, v = .int (a₀ + i * 1) t)
      (fun i h => IsRangeIter h s.heap.objs.size (a₀ + (i : Nat) * 1) ((n : Int) - (i : Nat)) 1) := (Walks.range hh _ a₀ 1 n).bound
  refine loop_one (h₀ := h₀) (m := m) (news := news) W (fun i v s Q E st q => wpAny_pure q) hE (fun i h hi => ⟨_, hi⟩) ?_ (next_is_new F) ?_ (by show IsRangeIter _ _ _ _ _; rw [hn]; simpa using Heap.get?_push_size _ rfl) (F.push _) (fun p hp => ⟨Heap.get?_push_of_some _ (N p hp).1, (N p hp).2⟩) J h0 ?_ ?_
  · intro e
    exact absurd F.ns.lt (e ▸ Nat.lt_irrefl _)
  · intro p hp hI
    exact absurd (Heap.lt_size (N p hp).1) (hI ▸ Nat.lt_irrefl _)
  · rintro i v m₁ nx h tk oI hi ⟨_, t, rfl⟩ htk ho hJ F₁ N₁
    have e1 : a₀ + (i : Int) * 1 = a₀ + (i : Int) := by omega
    rw [e1]
    exact turn i t m₁ nx h tk _ oI hi htk ho hJ F₁ N₁
  · intro m₁ nx h tk htk hJ F₁ N₁
    exact done m₁ nx h tk htk hJ F₁ N₁
end

/-- a while, left for the hand -/
def WhileAt (prog : Program) (w : World) (A : Around) (env : Env) (test : Expr) (body : List Stmt) (pos : Pos) (Q : Flow → Shared → Prop) (E : Value → Shared → Prop) (s : Shared) : Prop :=
  wpAny (model prog w) A (exec (.While test body [] pos) env) Q E s
theorem While_T {prog : Program} {w : World} {A : Around} {env : Env} {test : Expr} {body : List Stmt} {pos : Pos} {Q : Flow → Shared → Prop} {E : Value → Shared → Prop} {s : Shared}
    (h : WhileAt prog w A env test body pos Q E s) : wpAny (model prog w) A (exec (.While test body [] pos) env) Q E s := h

/-- the frame's map m is m₀ but for the letters ps and the names stored -/
def MapIs (m₀ : Str → Option Value) (stored : List Str) (ps : List (Str × Value)) (m : Str → Option Value) : Prop :=
  (∀ p ∈ ps, m p.1 = some p.2) ∧ ∀ z, (∀ p ∈ ps, z ≠ p.1) → stored.contains z = false → m z = m₀ z
theorem MapIs.eq {m₀ : Str → Option Value} {stored : List Str} {ps : List (Str × Value)} {m : Str → Option Value} (h : MapIs m₀ stored ps m) :
    m = kstB (fun z => if stored.contains z then m z else m₀ z) ps := by
  funext z
  refine (kstB_eq h.1 fun hn => ?_).symm
  show (if stored.contains z = true then m z else m₀ z) = m z
  cases h3 : stored.contains z with
  | true => simp
  | false => simp only [Bool.false_eq_true, if_false]; exact (h.2 z hn h3).symm
theorem MapIs.fr {m₀ : Str → Option Value} {stored : List Str} {ps : List (Str × Value)} {m : Str → Option Value} {h₀ h : Heap} {L : Addr} (x : MapIs m₀ stored ps m) (F : Fr h₀ L h m) :
    Fr h₀ L h (kstB (fun z => if stored.contains z then m z else m₀ z) ps) := x.eq ▸ F

def EndM {σ : Type} (h₀ : Heap) (L : Addr) (m₀ : Str → Option Value) (stored : List Str) (ps : σ → List (Str × Value)) (Led : σ → List (Addr × Obj)) (extra : List (Addr × Obj)) (P : σ → Prop) (s₁ : Shared) (Q : Flow → Shared → Prop) (f : Flow) (s₂ : Shared) : Prop :=
  match f with
  | .ret v => Q (.ret v) s₂
  | .brk => Q .next s₂
  | _ => ∃ c h' tk m' news', P c ∧ s₂ = { s₁ with heap := h', toks := tk } ∧ Fr h₀ L h' m' ∧ News h₀ L h' news' ∧ (∀ p ∈ extra, p ∈ news') ∧ (∀ p ∈ Led c, p ∈ news') ∧ (∀ p ∈ Led c, ∀ q ∈ extra, p.1 ≠ q.1) ∧ MapIs m₀ stored (ps c) m'
theorem EndM.intro {σ : Type} {h₀ : Heap} {L : Addr} {m₀ : Str → Option Value} {stored : List Str} {ps : σ → List (Str × Value)} {Led : σ → List (Addr × Obj)} {extra : List (Addr × Obj)} {P : σ → Prop} {s₁ : Shared} {Q : Flow → Shared → Prop}
    {h' : Heap} {tk : Nat} {m' : Str → Option Value} {news' : List (Addr × Obj)} (c : σ) (F : Fr h₀ L h' m') (N : News h₀ L h' news') (hm : MapIs m₀ stored (ps c) m') (hP : P c) (hx : ∀ p ∈ extra, p ∈ news') (hl : ∀ p ∈ Led c, p ∈ news') (hn : ∀ p ∈ Led c, ∀ q ∈ extra, p.1 ≠ q.1) :
    EndM h₀ L m₀ stored ps Led extra P s₁ Q .next { s₁ with heap := h', toks := tk } := ⟨c, h', tk, m', news', hP, rfl, F, N, hx, hl, hn, hm⟩
theorem EndM.cont {σ : Type} {h₀ : Heap} {L : Addr} {m₀ : Str → Option Value} {stored : List Str} {ps : σ → List (Str × Value)} {Led : σ → List (Addr × Obj)} {extra : List (Addr × Obj)} {P : σ → Prop} {s₁ : Shared} {Q : Flow → Shared → Prop}
    {h' : Heap} {tk : Nat} {m' : Str → Option Value} {news' : List (Addr × Obj)} (c : σ) (F : Fr h₀ L h' m') (N : News h₀ L h' news') (hm : MapIs m₀ stored (ps c) m') (hP : P c) (hx : ∀ p ∈ extra, p ∈ news') (hl : ∀ p ∈ Led c, p ∈ news') (hn : ∀ p ∈ Led c, ∀ q ∈ extra, p.1 ≠ q.1) :
    EndM h₀ L m₀ stored ps Led extra P s₁ Q .cont { s₁ with heap := h', toks := tk } := ⟨c, h', tk, m', news', hP, rfl, F, N, hx, hl, hn, hm⟩

section
variable {prog : Program} {w : World} {A : Around} {E : Value → Shared → Prop} {s : Shared} {env : Env} {h₀ : Heap} {target : Expr} {body : List Stmt} {Q : Flow → Shared → Prop}
theorem While_M {σ : Type} {L : Addr} {test : Expr} {pos : Pos} {m : Str → Option Value} {news : List (Addr × Obj)} (stored : List Str) (ps : σ → List (Str × Value)) (Led : σ → List (Addr × Obj)) (μ : σ → Nat) (P : σ → Prop)
    (F : Fr h₀ L s.heap m) (N : News h₀ L s.heap news) (start : ∃ c₀, (∀ p ∈ Led c₀, p ∈ news) ∧ (∀ p ∈ ps c₀, m p.1 = some p.2) ∧ P c₀)
    (turn : ∀ c (u : Str → Option Value) h tk, P c → Fr h₀ L h (kstB (fun z => if stored.contains z then u z else m z) (ps c)) → News h₀ L h (Led c) →
      wpAny (model prog w) A (isTrue test env (eval test env)) (fun b s₂ =>
        if b = true then wpAny (model prog w) A (execs body env) (EndM h₀ L m stored ps Led [] (fun c' => μ c' < μ c ∧ P c') s Q) E s₂ else Q .next s₂) E { s with heap := h, toks := tk })
    (hE : PassesOwn (model prog w) A env E := by passes_own) :
    WhileAt prog w A env test body pos Q E s := by
  obtain ⟨c₀, hl, hps, hP⟩ := start
  refine While_inv2 (fun n m' nx => ∃ c, μ c = n ∧ P c ∧ (∀ p ∈ Led c, p ∈ nx) ∧ MapIs m stored (ps c) m') F N ⟨c₀, rfl, hP, hl, hps, fun _ _ _ => rfl⟩ ?_ hE
  rintro n m₁ nx h₁ tk₁ F₁ N₁ ⟨c, rfl, hPc, hlc, hm⟩
  refine wpAny_mono (turn c m₁ h₁ tk₁ hPc (hm.fr F₁) fun p hp => N₁ p (hlc p hp)) (fun b s₂ h₂ => ?_) fun _ _ x => x
  cases b with
  | false => exact h₂
  | true =>
    simp only [if_true] at h₂ ⊢
    refine wpAny_mono h₂ (fun f s₃ h₃ => ?_) fun _ _ x => x
    have fin : (∃ c' h' tk m' news', (μ c' < μ c ∧ P c') ∧ s₃ = { s with heap := h', toks := tk } ∧ Fr h₀ L h' m' ∧ News h₀ L h' news' ∧ (∀ p ∈ ([] : List (Addr × Obj)), p ∈ news') ∧ (∀ p ∈ Led c', p ∈ news') ∧ (∀ p ∈ Led c', ∀ q ∈ ([] : List (Addr × Obj)), p.1 ≠ q.1) ∧ MapIs m stored (ps c') m') →
        ∃ h' tk m₂ news₂ n', s₃ = { s with heap := h', toks := tk } ∧ Fr h₀ L h' m₂ ∧ News h₀ L h' news₂ ∧ n' < μ c ∧ ∃ c, μ c = n' ∧ P c ∧ (∀ p ∈ Led c, p ∈ news₂) ∧ MapIs m stored (ps c) m₂ := by
      rintro ⟨c', h', tk, m', news', ⟨hμ, hP'⟩, e, F', N', _, hl', _, hm'⟩
      exact ⟨h', tk, m', news', μ c', e, F', N', hμ, c', rfl, hP', hl', hm'⟩
    cases f with
    | ret v => exact h₃
    | brk => exact h₃
    | cont => exact fin h₃
    | next => exact fin h₃

theorem list_M {σ : Type} {l : Addr} {vs : List Value} {nn : Nat} {m : Str → Option Value} {news : List (Addr × Obj)} (stored : List Str) (ps : σ → List (Str × Value)) (Led : σ → List (Addr × Obj)) (P : Nat → σ → Prop)
    (hh : A.handled = none) (F : Fr h₀ env.locals s.heap m) (N : News h₀ env.locals s.heap news) (hl : (l, listOf vs.toArray nn) ∈ news) (hlc : ∀ c, (l, listOf vs.toArray nn) ∈ Led c) (start : ∃ c₀, (∀ p ∈ Led c₀, p ∈ news) ∧ (∀ p ∈ ps c₀, m p.1 = some p.2) ∧ P 0 c₀)
    (turn : ∀ i v c (u : Str → Option Value) h tk I oI, vs[i]? = some v → s.toks ≤ tk → P i c → (∀ p ∈ Led c, p.1 ≠ I) → Fr h₀ env.locals h (kstB (fun z => if stored.contains z then u z else m z) (ps c)) → News h₀ env.locals h ((I, oI) :: Led c) →
      wpAny (model prog w) A (assign target env v) (fun _ s₂ => wpAny (model prog w) A (execs body env) (EndM h₀ env.locals m stored ps Led [(I, oI)] (P (i + 1)) { s with heap := h, toks := tk } Q) E s₂) E { s with heap := h, toks := tk })
    (done : ∀ c (u : Str → Option Value) h tk, s.toks ≤ tk → P vs.length c → Fr h₀ env.locals h (kstB (fun z => if stored.contains z then u z else m z) (ps c)) → News h₀ env.locals h (Led c) → Q .next { s with heap := h, toks := tk })
    (hE : PassesOwn (model prog w) A env E := by passes_own) :
    wpAny (model prog w) A (pyIter (.ref l)) (fun it s₂ => LoopT prog w A env target body Q E it s₂) E s := by
  obtain ⟨c₀, hled, hps, hP⟩ := start
  refine loop_list (fun i m' nx => ∃ c, P i c ∧ nx = Led c ∧ MapIs m stored (ps c) m') hh hE (hlc c₀) F (fun p hp => N p (hled p hp)) ⟨c₀, hP, rfl, hps, fun _ _ _ => rfl⟩ ?_ ?_
  · rintro i v m₁ nx h tk I oI hv htk _ hne ⟨c, hPc, rfl, hm⟩ F₁ N₁
    refine wpAny_mono (turn i v c m₁ h tk I oI hv htk hPc hne (hm.fr F₁) N₁) (fun _ s₂ h₂ => wpAny_mono h₂ (fun f s₃ h₃ => ?_) fun _ _ x => x) fun _ _ x => x
    have fin : (∃ c' h' tk' m' news', P (i + 1) c' ∧ s₃ = { s with heap := h', toks := tk' } ∧ Fr h₀ env.locals h' m' ∧ News h₀ env.locals h' news' ∧ (∀ p ∈ [(I, oI)], p ∈ news') ∧ (∀ p ∈ Led c', p ∈ news') ∧ (∀ p ∈ Led c', ∀ q ∈ [(I, oI)], p.1 ≠ q.1) ∧ MapIs m stored (ps c') m') →
        ∃ h' tk' m₂ nx', s₃ = { s with heap := h', toks := tk' } ∧ Fr h₀ env.locals h' m₂ ∧ News h₀ env.locals h' ((I, oI) :: nx') ∧ (∀ p ∈ [(l, listOf vs.toArray nn)], p ∈ nx') ∧ (∀ p ∈ nx', p.1 ≠ I) ∧ ∃ c, P (i + 1) c ∧ nx' = Led c ∧ MapIs m stored (ps c) m₂ := by
      rintro ⟨c', h', tk', m', news', hP', e, F', N', hx, hl', hn, hm'⟩
      refine ⟨h', tk', m', Led c', e, F', fun p hp => ?_, fun p hp => (List.mem_singleton.mp hp) ▸ hlc c', fun p hp => hn p hp _ (.head _), c', hP', rfl, hm'⟩
      rcases List.mem_cons.mp hp with rfl | hp
      · exact N' _ (hx _ (.head _))
      · exact N' _ (hl' _ hp)
    cases f with
    | ret v => exact h₃
    | brk => exact h₃
    | cont => exact fin h₃
    | next => exact fin h₃
  · rintro m₁ nx h tk htk ⟨c, hPc, rfl, hm⟩ F₁ N₁
    exact done c m₁ h tk htk hPc (hm.fr F₁) N₁

theorem range_M {σ : Type} {x : Str} {px : Pos} {r : Addr} {a₀ b₀ : Int} {t₀ u₀ v₀ : Tok} {n : Nat} {m : Str → Option Value} {news : List (Addr × Obj)} (stored : List Str) (ps : σ → List (Str × Value)) (Led : σ → List (Addr × Obj)) (P : Nat → σ → Prop)
    (hh : A.handled = none) (hr : IsRange s.heap r a₀ b₀ 1 t₀ u₀ v₀) (hsmall : Builtin.Range.small a₀ b₀ 1 = true) (hn : Builtin.Range.rangeSize a₀ b₀ 1 = (n : Int)) (F : Fr h₀ env.locals s.heap m) (N : News h₀ env.locals s.heap news) (start : ∃ c₀, (∀ p ∈ Led c₀, p ∈ news) ∧ (∀ p ∈ ps c₀, m p.1 = some p.2) ∧ P 0 c₀)
    (turn : ∀ (i : Nat) t c (u : Str → Option Value) h tk I oI, i < n → s.toks ≤ tk → P i c → (∀ p ∈ Led c, p.1 ≠ I) → Fr h₀ env.locals h (kstB (fun z => if stored.contains z then u z else m z) (ps c)) → News h₀ env.locals h ((I, oI) :: Led c) →
      wpAny (model prog w) A (assign (.Name x px) env (.int (a₀ + i) t)) (fun _ s₂ => wpAny (model prog w) A (execs body env) (EndM h₀ env.locals m stored ps Led [(I, oI)] (P (i + 1)) { s with heap := h, toks := tk } Q) E s₂) E { s with heap := h, toks := tk })
    (done : ∀ c (u : Str → Option Value) h tk, s.toks ≤ tk → P n c → Fr h₀ env.locals h (kstB (fun z => if stored.contains z then u z else m z) (ps c)) → News h₀ env.locals h (Led c) → Q .next { s with heap := h, toks := tk })
    (hE : PassesOwn (model prog w) A env E := by passes_own) :
    wpAny (model prog w) A (pyIter (.ref r)) (fun it s₂ => LoopT prog w A env (.Name x px) body Q E it s₂) E s := by
  obtain ⟨c₀, hled, hps, hP⟩ := start
  refine loop_range (fun i m' nx => ∃ c, P i c ∧ nx = Led c ∧ MapIs m stored (ps c) m') hh hE hr hsmall hn F (fun p hp => N p (hled p hp)) ⟨c₀, hP, rfl, hps, fun _ _ _ => rfl⟩ ?_ ?_
  · rintro i t m₁ nx h tk I oI hi htk hne ⟨c, hPc, rfl, hm⟩ F₁ N₁
    refine wpAny_mono (turn i t c m₁ h tk I oI hi htk hPc hne (hm.fr F₁) N₁) (fun _ s₂ h₂ => wpAny_mono h₂ (fun f s₃ h₃ => ?_) fun _ _ x => x) fun _ _ x => x
    have fin : (∃ c' h' tk' m' news', P (i + 1) c' ∧ s₃ = { s with heap := h', toks := tk' } ∧ Fr h₀ env.locals h' m' ∧ News h₀ env.locals h' news' ∧ (∀ p ∈ [(I, oI)], p ∈ news') ∧ (∀ p ∈ Led c', p ∈ news') ∧ (∀ p ∈ Led c', ∀ q ∈ [(I, oI)], p.1 ≠ q.1) ∧ MapIs m stored (ps c') m') →
        ∃ h' tk' m₂ nx', s₃ = { s with heap := h', toks := tk' } ∧ Fr h₀ env.locals h' m₂ ∧ News h₀ env.locals h' ((I, oI) :: nx') ∧ (∀ p ∈ ([] : List (Addr × Obj)), p ∈ nx') ∧ (∀ p ∈ nx', p.1 ≠ I) ∧ ∃ c, P (i + 1) c ∧ nx' = Led c ∧ MapIs m stored (ps c) m₂ := by
      rintro ⟨c', h', tk', m', news', hP', e, F', N', hx, hl', hn, hm'⟩
      refine ⟨h', tk', m', Led c', e, F', fun p hp => ?_, fun p hp => (nomatch hp), fun p hp => hn p hp _ (.head _), c', hP', rfl, hm'⟩
      rcases List.mem_cons.mp hp with rfl | hp
      · exact N' _ (hx _ (.head _))
      · exact N' _ (hl' _ hp)
    cases f with
    | ret v => exact h₃
    | brk => exact h₃
    | cont => exact fin h₃
    | next => exact fin h₃
  · rintro m₁ nx h tk htk ⟨c, hPc, rfl, hm⟩ F₁ N₁
    exact done c m₁ h tk htk hPc (hm.fr F₁) N₁
end
theorem sub_push {l : Addr} {ys : List Value} {v : Value} {nn : Nat} {news : List (Addr × Obj)} : ∀ p ∈ (l, listOf (ys ++ [v]).toArray nn) :: news, p ∈ (l, listOf (ys.toArray.push v) nn) :: news := by
  intro p hp; rw [List.push_toArray]; exact hp
theorem add_L {prog : Program} {w : World} {A : Around} {E : Value → Shared → Prop} {s : Shared} {h₀ : Heap} {L : Addr} {m : Str → Option Value} {news : List (Addr × Obj)} {l b : Addr} {vs ws : List Value} {n k : Nat} {Q : Value → Shared → Prop}
    (F : Fr h₀ L s.heap m) (N : News h₀ L s.heap news) (hl : (l, listOf vs.toArray n) ∈ news) (hb : (b, listOf ws.toArray k) ∈ news) (hz : vs.length + ws.length ≤ 16777216)
    (h : ∀ l' h', (∀ p ∈ news, p.1 < l') → Fr h₀ L h' m → News h₀ L h' ((l', listOf (vs ++ ws).toArray 0) :: news) → Q (.ref l') { s with heap := h' }) :
    wpAny (model prog w) A (binaryOp .Add (.ref l) (.ref b)) Q E s :=
  add_arrays F N (News.isList N hl) (News.isList N hb) (fun h' F' N' => h _ h' (fun p hp => Heap.lt_size (N p hp).1) F' N') (by rw [PySem.sizeLine_eq, List.size_toArray, List.size_toArray]; exact hz)
theorem sub_refl {t : List (Addr × Obj)} : ∀ p ∈ t, p ∈ t := fun _ h => h
theorem sub_head {a : Addr × Obj} {t t' : List (Addr × Obj)} (h : ∀ p ∈ t, p ∈ t') : ∀ p ∈ a :: t, p ∈ a :: t' := fun p hp => by
  rcases List.mem_cons.mp hp with rfl | hp
  · exact .head _
  · exact .tail _ (h p hp)
theorem sub_skip {b : Addr × Obj} {t t' : List (Addr × Obj)} (h : ∀ p ∈ t, p ∈ t') : ∀ p ∈ t, p ∈ b :: t' := fun p hp => .tail _ (h p hp)
theorem off_new {I a : Addr} {oI o : Obj} {news nl : List (Addr × Obj)} (h1 : ∀ p ∈ nl, p.1 < a) (hI : (I, oI) ∈ nl) (h2 : ∀ p ∈ news, p.1 ≠ I) : ∀ p ∈ (a, o) :: news, ∀ q ∈ [(I, oI)], p.1 ≠ q.1 := by
  intro p hp q hq
  rw [List.mem_singleton.mp hq]
  rcases List.mem_cons.mp hp with rfl | hp
  · exact Nat.ne_of_gt (h1 _ hI)
  · exact h2 p hp
theorem off_same {I : Addr} {oI : Obj} {news : List (Addr × Obj)} (h2 : ∀ p ∈ news, p.1 ≠ I) : ∀ p ∈ news, ∀ q ∈ [(I, oI)], p.1 ≠ q.1 := by
  intro p hp q hq
  rw [List.mem_singleton.mp hq]
  exact h2 p hp
section
variable {prog : Program} {w : World} {A : Around} {E : Value → Shared → Prop} {s : Shared} {h₀ : Heap} {L l : Addr} {m : Str → Option Value} {news news' : List (Addr × Obj)}
theorem split_L {x y : Str} {t u : Tok} {Q : Value → Shared → Prop} (F : Fr h₀ L s.heap m) (N : News h₀ L s.heap news) (hy : (y.length == 0) = false) (hsz : x.length ≤ 1000000)
    (h : ∀ D vs h' k, StrsAre vs (Txt.split x y) → (∀ p ∈ news, p.1 < D) → Fr h₀ L h' m → News h₀ L h' ((D, listOf vs.toArray 0) :: news) → Q (.ref D) { s with heap := h', toks := k }) :
    wpAny (model prog w) A (call (.builtin "str.split") [.str x t, .str y u]) Q E s :=
  KSpl.split1 F N hy (fun D l h' k e a F' N' l1 => h D _ h' k (e ▸ a) l1 F' N') (by rw [PySem.sizeLine_eq]; omega)
theorem itemS_get {vs : List Value} {ys : List Str} {n : Nat} {k : Int} {u : Tok} {Q : Value → Shared → Prop} (N : News h₀ L s.heap news) (hm : (l, listOf vs.toArray n) ∈ news) (hS : StrsAre vs ys) (h0 : 0 ≤ k) (h1 : k < ys.length) (hfit : k < 2 ^ 63)
    (h : ∀ t, Q (.str (ys.getD k.toNat "") t) s) : wpAny (model prog w) A (getItem (.ref l) (.int k u)) Q E s := by
  have hk : k.toNat < ys.length := by omega
  obtain ⟨t, hx⟩ := hS.get k.toNat (ys.getD k.toNat "") (by rw [List.getD_eq_getElem?_getD, List.getElem?_eq_getElem hk]; rfl)
  exact wpAny_getItem_list (News.isList N hm) h0 hfit (by simpa using hx) (h t)
theorem itemS {value slice : PySem.Expr} {vs : List Value} {ys : List Str} {n : Nat} {k : Int} {u : Tok} {Q : Value → Shared → Prop} (N : News h₀ L s.heap news) (hm : (l, listOf vs.toArray n) ∈ news) (hS : StrsAre vs ys) (h0 : 0 ≤ k) (h1 : k < ys.length) (hfit : k < 2 ^ 63)
    (h : ∀ t, Q (.str (ys.getD k.toNat "") t) s) (hs : subscripted slice false (.ref l) (.int k u) = operate [.ref l, .int k u] (getItem (.ref l) (.int k u)) := by with_unfolding_all rfl) :
    wpAny (model prog w) A (subscriptTail value slice (.ref l) (.int k u)) Q E s :=
  tail_any (News.isList N hm).typeIs slot_list_getitem.lookup (itemS_get N hm hS h0 h1 hfit h) hs
theorem itemV {value slice : PySem.Expr} {vs : List Value} {v : Value} {n : Nat} {k : Int} {u : Tok} {Q : Value → Shared → Prop} (N : News h₀ L s.heap news) (hm : (l, listOf vs.toArray n) ∈ news) (hv : vs[k.toNat]? = some v) (h0 : 0 ≤ k) (hfit : k < 2 ^ 63)
    (h : Q v s) (hs : subscripted slice false (.ref l) (.int k u) = operate [.ref l, .int k u] (getItem (.ref l) (.int k u)) := by with_unfolding_all rfl) :
    wpAny (model prog w) A (subscriptTail value slice (.ref l) (.int k u)) Q E s :=
  tail_any (News.isList N hm).typeIs slot_list_getitem.lookup (wpAny_getItem_list (News.isList N hm) h0 hfit (by simpa using hv) h) hs
theorem pop_L {us : List Value} {y : Value} {n : Nat} {Q : Value → Shared → Prop} (F : Fr h₀ L s.heap m) (N : News h₀ L s.heap news) (U : Upd l (listOf (us ++ [y]).toArray n) (listOf us.toArray (n + 1)) news news')
    (hz : us.length ≤ 1000000) (h : ∀ h', Fr h₀ L h' m → News h₀ L h' news' → Q y { s with heap := h' }) : wpAny (model prog w) A (call (.builtin "list.pop") [.ref l]) Q E s := by
  refine kl_pop F N (p := us) (y := y) ?_ U (by rw [PySem.sizeLine_eq]; simp; omega) h
  simpa using kpa_last y us
theorem strs_snoc {vs : List Value} {r : List Str} {x : Str} (h : StrsAre vs (r ++ [x])) : ∃ us t, vs = us ++ [Value.str x t] ∧ StrsAre us r := by
  induction r generalizing vs with
  | nil =>
    cases h with
    | cons y t h => cases h; exact ⟨[], t, rfl, .nil⟩
  | cons a r ih =>
    cases h with
    | cons y t h =>
      obtain ⟨us, t', rfl, h'⟩ := ih h
      exact ⟨_ :: us, t', rfl, .cons _ _ h'⟩
theorem split_L2 {x y : Str} {t u : Tok} {r : List Str} {z : Str} {Q : Value → Shared → Prop} (hs : Txt.split x y = r ++ [z]) (F : Fr h₀ L s.heap m) (N : News h₀ L s.heap news) (hy : (y.length == 0) = false) (hsz : x.length ≤ 1000000)
    (h : ∀ D us t' h' k, StrsAre us r → (∀ p ∈ news, p.1 < D) → Fr h₀ L h' m → News h₀ L h' ((D, listOf (us ++ [Value.str z t']).toArray 0) :: news) → Q (.ref D) { s with heap := h', toks := k }) :
    wpAny (model prog w) A (call (.builtin "str.split") [.str x t, .str y u]) Q E s := by
  refine split_L F N hy hsz fun D vs h' k hS l1 F' N' => ?_
  rw [hs] at hS
  obtain ⟨us, t', rfl, h1⟩ := strs_snoc hS
  exact h D us t' h' k h1 l1 F' N'
theorem item_last {value slice : PySem.Expr} {us : List Value} {v : Value} {n : Nat} {k : Int} {u : Tok} {Q : Value → Shared → Prop} (N : News h₀ L s.heap news) (hm : (l, listOf (us ++ [v]).toArray n) ∈ news) (hk : k = (us.length : Int)) (hz : us.length ≤ 1000000)
    (h : Q v s) (hs : subscripted slice false (.ref l) (.int k u) = operate [.ref l, .int k u] (getItem (.ref l) (.int k u)) := by with_unfolding_all rfl) :
    wpAny (model prog w) A (subscriptTail value slice (.ref l) (.int k u)) Q E s :=
  itemV N hm (by subst hk; simp) (by omega) (by omega) h hs
end
theorem ne_of_below {news : List (Addr × Obj)} {a : Addr} (h : ∀ p ∈ news, p.1 < a) : ∀ p ∈ news, p.1 ≠ a := fun p hp => Nat.ne_of_lt (h p hp)
theorem sub_app {b : Addr × Obj} {t t' : List (Addr × Obj)} : ∀ p ∈ t ++ t', p ∈ t ++ b :: t' := fun p hp => (List.mem_append.mp hp).elim (fun h => List.mem_append_left _ h) fun h => List.mem_append_right _ (.tail _ h)
theorem newsSub {h₀ h : Heap} {L : Addr} {t t' : List (Addr × Obj)} (N : News h₀ L h t') (s : ∀ p ∈ t, p ∈ t') : News h₀ L h t := fun p hp => N p (s p hp)
theorem sub_x1 {l : Addr} {ys : List Value} {v : Value} {k : Nat} {d i : Addr × Obj} {tl R : List (Addr × Obj)} : ∀ p ∈ (l, listOf (ys ++ [v]).toArray k) :: ((d :: tl) ++ R), p ∈ d :: i :: (l, listOf (ys.toArray.push v) k) :: (tl ++ R) := by
  intro p hp
  rw [List.push_toArray]
  rcases List.mem_cons.mp hp with rfl | hp
  · exact .tail _ (.tail _ (.head _))
  · rcases List.mem_cons.mp hp with rfl | hp
    · exact .head _
    · exact .tail _ (.tail _ (.tail _ hp))
theorem sub_x2 {l : Addr} {ys : List Value} {v : Value} {k : Nat} {d e i : Addr × Obj} {tl R : List (Addr × Obj)} : ∀ p ∈ (l, listOf (ys ++ [v]).toArray k) :: ((d :: e :: tl) ++ R), p ∈ d :: e :: i :: (l, listOf (ys.toArray.push v) k) :: (tl ++ R) := by
  intro p hp
  rw [List.push_toArray]
  rcases List.mem_cons.mp hp with rfl | hp
  · exact .tail _ (.tail _ (.tail _ (.head _)))
  · rcases List.mem_cons.mp hp with rfl | hp
    · exact .head _
    · rcases List.mem_cons.mp hp with rfl | hp
      · exact .tail _ (.head _)
      · exact .tail _ (.tail _ (.tail _ (.tail _ hp)))
section
variable {prog : Program} {w : World} {A : Around} {E : Value → Shared → Prop} {s : Shared} {env : Env} {h₀ : Heap} {body : List Stmt} {Q : Flow → Shared → Prop}
theorem str_one {x : Str} {px : Pos} {y : Str} {St : Nat → Heap → Prop} {o : Obj} {m : Str → Option Value} {news : List (Addr × Obj)} (J : Nat → (Str → Option Value) → List (Addr × Obj) → Prop)
    (W : Walks prog w A s.heap.objs.size [s.heap.objs.size] [s.heap.objs.size] y.cps.size (SignAt y) St) (hob : ∀ i h, St i h → ∃ o, h.get? s.heap.objs.size = some o) (hst : St 0 (s.heap.push o))
    (hE : PassesOwn (model prog w) A env E) (F : Fr h₀ env.locals s.heap m) (N : News h₀ env.locals s.heap news) (h0 : J 0 m news)
    (turn : ∀ (i : Nat) c t m₁ nx h tk I oI, y.cps[i]? = some c → s.toks ≤ tk → (∀ p ∈ nx, p.1 ≠ I) → J i m₁ nx → Fr h₀ env.locals h m₁ → News h₀ env.locals h ((I, oI) :: nx) →
      wpAny (model prog w) A (assign (.Name x px) env (.str ⟨#[c]⟩ t)) (fun _ s₂ => wpAny (model prog w) A (execs body env) (EndT h₀ env.locals (I, oI) [] (J (i + 1)) { s with heap := h, toks := tk } Q) E s₂) E { s with heap := h, toks := tk })
    (done : ∀ m₁ nx h tk, s.toks ≤ tk → J y.cps.size m₁ nx → Fr h₀ env.locals h m₁ → News h₀ env.locals h nx → Q .next { s with heap := h, toks := tk }) :
    LoopT prog w A env (.Name x px) body Q E (.ref s.heap.objs.size) { s with heap := s.heap.push o } := by
  refine loop_one (h₀ := h₀) (m := m) (news := news) W (fun i v s Q E st q => wpAny_pure q) hE hob ?_ (next_is_new F) ?_ hst (F.push _) (fun p hp => ⟨Heap.get?_push_of_some _ (N p hp).1, (N p hp).2⟩) J h0 ?_ ?_
  · intro e
    exact absurd F.ns.lt (e ▸ Nat.lt_irrefl _)
  · intro p hp hI
    exact absurd (Heap.lt_size (N p hp).1) (hI ▸ Nat.lt_irrefl _)
  · rintro i v m₁ nx h tk oI hi ⟨c, u, hc, rfl⟩ htk ho hJ F₁ N₁
    exact turn i c u m₁ nx h tk _ oI hc htk ho hJ F₁ N₁
  · intro m₁ nx h tk htk hJ F₁ N₁
    exact done m₁ nx h tk htk hJ F₁ N₁

theorem str_M {σ : Type} {x : Str} {px : Pos} {y : Str} {ty : Tok} {m : Str → Option Value} {news : List (Addr × Obj)} (stored : List Str) (ps : σ → List (Str × Value)) (Led : σ → List (Addr × Obj)) (P : Nat → σ → Prop)
    (hh : A.handled = none) (F : Fr h₀ env.locals s.heap m) (N : News h₀ env.locals s.heap news) (start : ∃ c₀, (∀ p ∈ Led c₀, p ∈ news) ∧ (∀ p ∈ ps c₀, m p.1 = some p.2) ∧ P 0 c₀)
    (turn : ∀ (i : Nat) cp t c (u : Str → Option Value) h tk I oI, y.cps[i]? = some cp → s.toks ≤ tk → P i c → (∀ p ∈ Led c, p.1 ≠ I) → Fr h₀ env.locals h (kstB (fun z => if stored.contains z then u z else m z) (ps c)) → News h₀ env.locals h ((I, oI) :: Led c) →
      wpAny (model prog w) A (assign (.Name x px) env (.str ⟨#[cp]⟩ t)) (fun _ s₂ => wpAny (model prog w) A (execs body env) (EndM h₀ env.locals m stored ps Led [(I, oI)] (P (i + 1)) { s with heap := h, toks := tk } Q) E s₂) E { s with heap := h, toks := tk })
    (done : ∀ c (u : Str → Option Value) h tk, s.toks ≤ tk → P y.cps.size c → Fr h₀ env.locals h (kstB (fun z => if stored.contains z then u z else m z) (ps c)) → News h₀ env.locals h (Led c) → Q .next { s with heap := h, toks := tk })
    (hE : PassesOwn (model prog w) A env E := by passes_own) :
    wpAny (model prog w) A (pyIter (.str y ty)) (fun it s₂ => LoopT prog w A env (.Name x px) body Q E it s₂) E s := by
  obtain ⟨c₀, hled, hps, hP⟩ := start
  have N' : News h₀ env.locals s.heap (Led c₀) := fun p hp => N p (hled p hp)
  have key : ∀ {St : Nat → Heap → Prop} {o : Obj}, Walks prog w A s.heap.objs.size [s.heap.objs.size] [s.heap.objs.size] y.cps.size (SignAt y) St → (∀ i h, St i h → ∃ o, h.get? s.heap.objs.size = some o) → St 0 (s.heap.push o) →
      LoopT prog w A env (.Name x px) body Q E (.ref s.heap.objs.size) { s with heap := s.heap.push o } := by
    intro St o W hob hst
    refine str_one (fun i m' nx => ∃ c, P i c ∧ nx = Led c ∧ MapIs m stored (ps c) m') W hob hst hE F N' ⟨c₀, hP, rfl, hps, fun _ _ _ => rfl⟩ ?_ ?_
    · rintro i cp t m₁ nx h tk I oI hi htk hne ⟨c, hPc, rfl, hm⟩ F₁ N₁
      refine wpAny_mono (turn i cp t c m₁ h tk I oI hi htk hPc hne (hm.fr F₁) N₁) (fun _ s₂ h₂ => wpAny_mono h₂ (fun f s₃ h₃ => ?_) fun _ _ x => x) fun _ _ x => x
      have fin : (∃ c' h' tk' m' news', P (i + 1) c' ∧ s₃ = { s with heap := h', toks := tk' } ∧ Fr h₀ env.locals h' m' ∧ News h₀ env.locals h' news' ∧ (∀ p ∈ [(I, oI)], p ∈ news') ∧ (∀ p ∈ Led c', p ∈ news') ∧ (∀ p ∈ Led c', ∀ q ∈ [(I, oI)], p.1 ≠ q.1) ∧ MapIs m stored (ps c') m') →
          ∃ h' tk' m₂ nx', s₃ = { s with heap := h', toks := tk' } ∧ Fr h₀ env.locals h' m₂ ∧ News h₀ env.locals h' ((I, oI) :: nx') ∧ (∀ p ∈ ([] : List (Addr × Obj)), p ∈ nx') ∧ (∀ p ∈ nx', p.1 ≠ I) ∧ ∃ c, P (i + 1) c ∧ nx' = Led c ∧ MapIs m stored (ps c) m₂ := by
        rintro ⟨c', h', tk', m', news', hP', e, F', N', hx, hl', hn, hm'⟩
        refine ⟨h', tk', m', Led c', e, F', fun p hp => ?_, fun p hp => (nomatch hp), fun p hp => hn p hp _ (.head _), c', hP', rfl, hm'⟩
        rcases List.mem_cons.mp hp with rfl | hp
        · exact N' _ (hx _ (.head _))
        · exact N' _ (hl' _ hp)
      cases f with
      | ret v => exact h₃
      | brk => exact h₃
      | cont => exact fin h₃
      | next => exact fin h₃
    · rintro m₁ nx h tk htk ⟨c, hPc, rfl, hm⟩ F₁ N₁
      exact done c m₁ h tk htk hPc (hm.fr F₁) N₁
  cases ha : y.cps.all (· < 128)
  · exact wpAny_pyIter_wide ha (key (Walks.strWide hh _ y ty) (fun i h hi => let ⟨o, ho, _⟩ := hi; ⟨o, ho⟩) ⟨_, Heap.get?_push_size _ rfl, rfl, rfl⟩)
  · exact wpAny_pyIter_ascii ha (key (Walks.strAscii hh _ y ty) (fun i h hi => let ⟨o, ho, _⟩ := hi; ⟨o, ho⟩) ⟨_, Heap.get?_push_size _ rfl, rfl, rfl⟩)
end
theorem item_first {prog : Program} {w : World} {A : Around} {E : Value → Shared → Prop} {s : Shared} {h₀ : Heap} {L l : Addr} {news : List (Addr × Obj)} {value slice : PySem.Expr} {us : List Value} {v : Value} {n : Nat} {u : Tok} {Q : Value → Shared → Prop} (N : News h₀ L s.heap news) (hm : (l, listOf (v :: us).toArray n) ∈ news)
    (h : Q v s) (hs : subscripted slice false (.ref l) (.int 0 u) = operate [.ref l, .int 0 u] (getItem (.ref l) (.int 0 u)) := by with_unfolding_all rfl) :
    wpAny (model prog w) A (subscriptTail value slice (.ref l) (.int 0 u)) Q E s :=
  itemV N hm rfl (by omega) (by omega) h hs
theorem range0_M {prog : Program} {w : World} {A : Around} {E : Value → Shared → Prop} {s : Shared} {env : Env} {h₀ : Heap} {body : List Stmt} {Q : Flow → Shared → Prop} {σ : Type} {x : Str} {px : Pos} {r : Addr} {b₀ : Int} {t₀ u₀ v₀ : Tok} {m : Str → Option Value} {news : List (Addr × Obj)} (stored : List Str) (ps : σ → List (Str × Value)) (Led : σ → List (Addr × Obj)) (P : Nat → σ → Prop)
    (hh : A.handled = none) (hr : IsRange s.heap r 0 b₀ 1 t₀ u₀ v₀) (hb0 : 0 ≤ b₀) (hb1 : b₀ ≤ 1000000) (F : Fr h₀ env.locals s.heap m) (N : News h₀ env.locals s.heap news) (start : ∃ c₀, (∀ p ∈ Led c₀, p ∈ news) ∧ (∀ p ∈ ps c₀, m p.1 = some p.2) ∧ P 0 c₀)
    (turn : ∀ (i : Nat) t c (u : Str → Option Value) h tk I oI, i < b₀.toNat → s.toks ≤ tk → P i c → (∀ p ∈ Led c, p.1 ≠ I) → Fr h₀ env.locals h (kstB (fun z => if stored.contains z then u z else m z) (ps c)) → News h₀ env.locals h ((I, oI) :: Led c) →
      wpAny (model prog w) A (assign (.Name x px) env (.int (i : Int) t)) (fun _ s₂ => wpAny (model prog w) A (execs body env) (EndM h₀ env.locals m stored ps Led [(I, oI)] (P (i + 1)) { s with heap := h, toks := tk } Q) E s₂) E { s with heap := h, toks := tk })
    (done : ∀ c (u : Str → Option Value) h tk, s.toks ≤ tk → P b₀.toNat c → Fr h₀ env.locals h (kstB (fun z => if stored.contains z then u z else m z) (ps c)) → News h₀ env.locals h (Led c) → Q .next { s with heap := h, toks := tk })
    (hE : PassesOwn (model prog w) A env E := by passes_own) :
    wpAny (model prog w) A (pyIter (.ref r)) (fun it s₂ => LoopT prog w A env (.Name x px) body Q E it s₂) E s := by
  refine range_M (n := b₀.toNat) stored ps Led P hh hr (small_one (by omega) (by omega) (by omega) (by omega)) (by rw [rangeSize_one]; split <;> omega) F N start ?_ done hE
  intro i t c u h tk I oI hi htk hP hI F' N'
  rw [Int.zero_add]
  exact turn i t c u h tk I oI hi htk hP hI F' N'
/-- a stop for the hand -/
def Stop (P : Prop) : Prop := P
theorem stop_T {P : Prop} (h : Stop P) : P := h

local macro_rules | `(tactic| k_all) => `(tactic| first | assumption | exact Mine.ne_of_below (by assumption))
local macro_rules | `(tactic| k_mem) => `(tactic| assumption)
local macro_rules | `(tactic| k_room) => `(tactic| ktr_room)
theorem reg11 : True := by
  k_with "call builtin:len" => (k_here; (with_reducible show wpAny _ _ (call (Value.builtin "len") [Value.ref _]) _ _ _); k_dflt (refine' Mine.len_L ?k1 ?k2 ?k3 ?_; (case k1 => k_asm); (case k2 => k_mem); (case k3 => first | omega | (simp only [List.length_append, List.length_cons, List.length_nil]; omega)); k_whole))
  k_with "exec For Name Name cons nil" => (k_here; k_dflt (refine Mine.For_T ?_))
  k_with "exec For Name Call cons nil" => (k_here; k_dflt (refine Mine.For_T ?_))
  k_with "exec For Tuple Name cons nil" => (k_here; k_dflt (refine Mine.For_T ?_))
  k_with "exec For Tuple Call cons nil" => (k_here; k_dflt (refine Mine.For_T ?_))
  k_with "call builtin:str.replace" => (k_here; (with_reducible show wpAny _ _ (call (Value.builtin "str.replace") [Value.str _ _, Value.str _ _, Value.str _ _]) _ _ _); (refine SC.replaceW ?a ?b ?c ?d ?e ?f ?_; (case a => k_ne); (case b => k_ne); (case c => k_ne); (case d => decide +kernel); (case e => omega); (case f => decide +kernel)); intro _ _)
  k_with "exec While Compare cons nil" => (k_here; k_dflt (refine Mine.While_T ?_))
  k_with "call builtin:list.append" => (k_here; (with_reducible show wpAny _ _ (call (Value.builtin _) [Value.ref _, _]) _ _ _); k_dflt (refine' append_K ?k1 ?k2 ?k3 ?_ ?z; (case k1 => k_asm); (case k2 => k_asm); (case k3 => k_upd); (case z => (rw [PySem.sizeLine_eq, List.size_toArray]; omega)); k_whole); intro hZ FZ NZ; (try k_sweep))
  trivial
theorem ret_I {Q : Value → Shared → Prop} {x y : Int} {t : Tok} {s : Shared} (h : Q (.int x t) s) (e : y = x) : Q (.int y t) s := e ▸ h

set_option maxHeartbeats 4000000 in
theorem take_h {w : World} {mean : ExcName → Option Value} {mg mb : Str → Option Value} {dp un : Nat} {gd : Option (List Code)} {cn : Str} {cs : Scope} {a : Addr} {ccd : Value} {cl : List (Str × Addr)} {outer : List Env} {A₀ : Around} {base h₀ : Heap} {L : Addr} {m : Str → Option Value} {s : Shared} {Q E : Value → Shared → Prop}
    {tp tl : Addr} {vs : List Value} {ns : List Int} {k k2 : Nat} {at_ : Int} {t0 tk : Tok} {n : Int} {rest : List (Addr × Obj)}
    (B : Below A₀ base outer h₀) (F : Fr h₀ L s.heap m) (X : (K0 w.params).In h₀) (T : Top V0 (looseW V0 []) mean mg mb h₀) (hk : cs.kind = .function) (N : News h₀ L s.heap ((tp, listOf #[.ref tl, .int at_ t0] k) :: rest))
    (hoff : ∀ p ∈ rest, p.1 ≠ tp) (hl : (tl, listOf vs.toArray k2) ∈ rest) (hi : IntsAre vs ns) (hlen : ns.length ≤ 63) (h0 : 0 ≤ at_) (hat : at_ ≤ 100000) (hn0 : 0 < n) (hn : n ≤ 100000) (hd' : dp + 1 < recursionLimit) (hu : un + 8 < cLine)
    (hret : ∀ v t t1 h' tk', 0 ≤ v → v < n → Fr h₀ L h' m → News h₀ L h' ((tp, listOf #[.ref tl, .int (at_ + 1) t1] k) :: rest) → Q (.int v t) { s with heap := h', toks := tk' }) :
    wpAny (model PySem.Challenge.rw_no0235_01.row.prog w) (ktrTop dp un gd cn cs L a ccd cl outer) (call (.ref 201) [.ref tp, .int n tk]) Q E s := by
  revert X; k_fill; intro X; w_top off
  have hvl := hi.length
  refine wpAny_call ?_
  k_dflt (refine' code_def (binds := [(Str.ofString "tape", .ref tp), (Str.ofString "n", .int n tk)]) ?k1 ?k2 ?k3 ?k4 ?k5 ?kA ?kF ?kK ?k6 ?k7 ?k8 ?k9 ?kB ?_ ?c2 ?c3 ?c4 ?c5; (case kA => exact rfl); (case kF => exact rfl); (case kK => assumption); (case k1 => k_asm); (case k2 => k_asm); (case k3 => k_asm); (case k4 => k_asm); (case k5 => k_asm); (case k6 => k_is); (case k7 => k_is); (case k8 => ktr_room); (case k9 => exact BindsTo.of_eq (by with_unfolding_all rfl)); (case c5 => decide); (case kB => exact locs rfl); (case c2 => exact rfl); (case c3 => exact rfl); (case c4 => exact rfl); k_whole; intro g' L' h' FG' F' N' B' X' T'; (try dsimp only); (try k_lift B'); (try k_fold))
  k_steps
  all_goals (refine hret _ _ _ _ _ ?_ ?_ (by k_asm) (by k_asm) <;> (rw [Int.fmod_eq_emod_of_nonneg _ (by omega)]; first | exact Int.emod_nonneg _ (by omega) | exact Int.emod_lt_of_pos _ hn0))

set_option maxHeartbeats 4000000 in
theorem take_u {w : World} {mean : ExcName → Option Value} {mg mb : Str → Option Value} {dp un : Nat} {gd : Option (List Code)} {cn : Str} {cs : Scope} {a : Addr} {ccd : Value} {cl : List (Str × Addr)} {outer : List Env} {A₀ : Around} {base h₀ : Heap} {L : Addr} {m : Str → Option Value} {s : Shared} {Q E : Value → Shared → Prop}
    {tp tl : Addr} {vs : List Value} {ns : List Int} {k k2 : Nat} {at_ : Int} {t0 tk : Tok} {n : Int} {news : List (Addr × Obj)} {g : Obj → List (Addr × Obj)}
    (B : Below A₀ base outer h₀) (F : Fr h₀ L s.heap m) (X : (K0 w.params).In h₀) (T : Top V0 (looseW V0 []) mean mg mb h₀) (hk : cs.kind = .function) (N : News h₀ L s.heap news) (U : UpdF tp (listOf #[.ref tl, .int at_ t0] k) news g)
    (hl : (tl, listOf vs.toArray k2) ∈ news) (hne : tl ≠ tp) (hi : IntsAre vs ns) (hlen : ns.length ≤ 63) (h0 : 0 ≤ at_) (hat : at_ ≤ 100000) (hn0 : 0 < n) (hn : n ≤ 100000) (hd' : dp + 1 < recursionLimit) (hu : un + 8 < cLine)
    (hret : ∀ v t t1 h' tk', 0 ≤ v → v < n → Fr h₀ L h' m → News h₀ L h' (g (listOf #[.ref tl, .int (at_ + 1) t1] k)) → Q (.int v t) { s with heap := h', toks := tk' }) :
    wpAny (model PySem.Challenge.rw_no0235_01.row.prog w) (ktrTop dp un gd cn cs L a ccd cl outer) (call (.ref 201) [.ref tp, .int n tk]) Q E s := by
  obtain ⟨pre, post, rfl, hg, h1, h2⟩ := U.split
  refine take_h (rest := pre ++ post) (tl := tl) (t0 := t0) (k := k) (vs := vs) (ns := ns) (k2 := k2) B F X T hk (fun p hp => N p ?_) ?_ ?_ hi hlen h0 hat hn0 hn hd' hu ?_
  · rcases List.mem_cons.mp hp with rfl | hp
    · exact List.mem_append.mpr (.inr (.head _))
    · rcases List.mem_append.mp hp with hp | hp
      · exact List.mem_append.mpr (.inl hp)
      · exact List.mem_append.mpr (.inr (.tail _ hp))
  · intro p hp
    exact (List.mem_append.mp hp).elim (h1 p) (h2 p)
  · rcases List.mem_append.mp hl with hp | hp
    · exact List.mem_append.mpr (.inl hp)
    · rcases List.mem_cons.mp hp with e | hp
      · exact absurd (congrArg Prod.fst e) hne
      · exact List.mem_append.mpr (.inr hp)
  · intro v t t1 h' tk' a b F' N'
    refine hret v t t1 h' tk' a b F' ?_
    rw [hg]
    intro p hp
    refine N' p ?_
    rcases List.mem_append.mp hp with hp | hp
    · exact .tail _ (List.mem_append.mpr (.inl hp))
    · rcases List.mem_cons.mp hp with rfl | hp
      · exact .head _
      · exact .tail _ (List.mem_append.mpr (.inr hp))

theorem ret_B {Q : Value → Shared → Prop} {x y : Bool} {s : Shared} (h : Q (.bool x) s) (e : y = x) : Q (.bool y) s := e ▸ h
theorem ret_S {Q : Value → Shared → Prop} {x y : Str} {t : Tok} {s : Shared} (h : Q (.str x t) s) (e : y = x) : Q (.str y t) s := e ▸ h

set_option maxHeartbeats 4000000 in
theorem wb_c {w : World} {mean : ExcName → Option Value} {mg mb : Str → Option Value} {dp un : Nat} {gd : Option (List Code)} {cn : Str} {cs : Scope} {a : Addr} {ccd : Value} {cl : List (Str × Addr)} {outer : List Env} {A₀ : Around} {base h₀ : Heap} {L : Addr} {m : Str → Option Value} {s : Shared} {Q E : Value → Shared → Prop} {x : Str} {t : Tok} {news : List (Addr × Obj)}
    (B : Below A₀ base outer h₀) (F : Fr h₀ L s.heap m) (X : (K0 w.params).In h₀) (T : Top V0 (looseW V0 []) mean mg mb h₀) (hk : cs.kind = .function) (N : News h₀ L s.heap news) (hx : x.length ≤ 100000) (hd' : dp + 1 < recursionLimit) (hu : un + 8 < cLine)
    (hret : ∀ t h' tk', Fr h₀ L h' m → News h₀ L h' news → Q (.str (Txt.replace x " " "") t) { s with heap := h', toks := tk' }) :
    wpAny (model PySem.Challenge.rw_no0235_01.row.prog w) (ktrTop dp un gd cn cs L a ccd cl outer) (call (.ref 124) [.str x t]) Q E s := by
  revert X; k_fill; intro X; w_top off
  refine wpAny_call ?_
  k_dflt (refine' code_def (binds := [(Str.ofString "text", .str x t)]) ?k1 ?k2 ?k3 ?k4 ?k5 ?kA ?kF ?kK ?k6 ?k7 ?k8 ?k9 ?kB ?_ ?c2 ?c3 ?c4 ?c5; (case kA => exact rfl); (case kF => exact rfl); (case kK => assumption); (case k1 => k_asm); (case k2 => k_asm); (case k3 => k_asm); (case k4 => k_asm); (case k5 => k_asm); (case k6 => k_is); (case k7 => k_is); (case k8 => ktr_room); (case k9 => exact BindsTo.of_eq (by with_unfolding_all rfl)); (case c5 => decide); (case kB => exact locs rfl); (case c2 => exact rfl); (case c3 => exact rfl); (case c4 => exact rfl); k_whole; intro g' L' h' FG' F' N' B' X' T'; (try dsimp only); (try k_lift B'); (try k_fold))
  refine Mine.gen_tk (by simp only [List.length_cons]; omega) ?_
  intro tk htk
  k_steps
  all_goals exact hret _ _ _ (by k_asm) (by k_asm)

theorem reg15 : True := by
  k_with "call ref" => (k_here; (with_reducible show wpAny _ _ (call (Value.ref 124) [Value.str _ _]) _ _ _); k_dflt (refine' Mine.wb_c ?B ?F ?X ?T ?hk ?N ?hx ?d ?u ?_; (case B => k_asm); (case F => k_asm); (case X => k_asm); (case T => k_asm); (case hk => first | exact rfl | assumption); (case N => k_asm); (case d => ktr_room); (case u => ktr_units); (case hx => omega)); intro t9Z h9Z tk9Z F9Z N9Z; (try dsimp only); (try k_sweep); (try k_fold))
  trivial
def isCm (x : Str) (c : Int) : Bool := Txt.slice x none (some 1) == ("C" : Str) || Txt.slice x none (some 1) == ("c" : Str) || Txt.slice x none (some 1) == ("*" : Str) || Txt.replace (Txt.slice x none (some c)) " " "" == ("" : Str)
set_option maxHeartbeats 4000000 in
theorem ic_c {w : World} {mean : ExcName → Option Value} {mg mb : Str → Option Value} {dp un : Nat} {gd : Option (List Code)} {cn : Str} {cs : Scope} {a : Addr} {ccd : Value} {cl : List (Str × Addr)} {outer : List Env} {A₀ : Around} {base h₀ : Heap} {L : Addr} {m : Str → Option Value} {s : Shared} {Q E : Value → Shared → Prop} {x : Str} {t : Tok} {c : Int} {tc : Tok} {news : List (Addr × Obj)}
    (B : Below A₀ base outer h₀) (F : Fr h₀ L s.heap m) (X : (K0 w.params).In h₀) (T : Top V0 (looseW V0 []) mean mg mb h₀) (hk : cs.kind = .function) (N : News h₀ L s.heap news) (hx : x.length ≤ 100000) (hc : 0 ≤ c ∧ c ≤ 1000) (hd' : dp + 2 < recursionLimit) (hu : un + 16 < cLine)
    (hret : ∀ h' tk', Fr h₀ L h' m → News h₀ L h' news → Q (.bool (isCm x c)) { s with heap := h', toks := tk' }) :
    wpAny (model PySem.Challenge.rw_no0235_01.row.prog w) (ktrTop dp un gd cn cs L a ccd cl outer) (call (.ref 131) [.str x t, .int c tc]) Q E s := by
  revert X; k_fill; intro X; w_top off
  refine wpAny_call ?_
  k_dflt (refine' code_def (binds := [(Str.ofString "row", .str x t), (Str.ofString "columns", .int c tc)]) ?k1 ?k2 ?k3 ?k4 ?k5 ?kA ?kF ?kK ?k6 ?k7 ?k8 ?k9 ?kB ?_ ?c2 ?c3 ?c4 ?c5; (case kA => exact rfl); (case kF => exact rfl); (case kK => assumption); (case k1 => k_asm); (case k2 => k_asm); (case k3 => k_asm); (case k4 => k_asm); (case k5 => k_asm); (case k6 => k_is); (case k7 => k_is); (case k8 => ktr_room); (case k9 => exact BindsTo.of_eq (by with_unfolding_all rfl)); (case c5 => decide); (case kB => exact locs rfl); (case c2 => exact rfl); (case c3 => exact rfl); (case c4 => exact rfl); k_whole; intro g' L' h' FG' F' N' B' X' T'; (try dsimp only); (try k_lift B'); (try k_fold))
  k_steps
  all_goals first | exact ret_B (hret _ _ (by k_asm) (by k_asm)) (by simp [isCm, *])
def padS (x : Str) (c : Int) : Str := if (x.length : Int) < c then x ++ Txt.mul " " (c - x.length) else x
theorem padS_len (x : Str) (c : Int) : ((padS x c).length : Int) = max (x.length : Int) c := by
  unfold padS
  split
  · have h := len_mul_k1 (x := (" " : Str)) (n := c - x.length) (by decide)
    rw [PySem.Str.length_append, Int.natCast_add, h, if_neg (by omega)]; omega
  · omega
set_option maxHeartbeats 4000000 in
theorem pad_c {w : World} {mean : ExcName → Option Value} {mg mb : Str → Option Value} {dp un : Nat} {gd : Option (List Code)} {cn : Str} {cs : Scope} {a : Addr} {ccd : Value} {cl : List (Str × Addr)} {outer : List Env} {A₀ : Around} {base h₀ : Heap} {L : Addr} {m : Str → Option Value} {s : Shared} {Q E : Value → Shared → Prop} {x : Str} {t : Tok} {c : Int} {tc : Tok} {news : List (Addr × Obj)}
    (B : Below A₀ base outer h₀) (F : Fr h₀ L s.heap m) (X : (K0 w.params).In h₀) (T : Top V0 (looseW V0 []) mean mg mb h₀) (hk : cs.kind = .function) (N : News h₀ L s.heap news) (hx : x.length ≤ 100000) (hc : 0 ≤ c ∧ c ≤ 1000) (hd' : dp + 2 < recursionLimit) (hu : un + 16 < cLine)
    (hret : ∀ t h' tk', Fr h₀ L h' m → News h₀ L h' news → Q (.str (padS x c) t) { s with heap := h', toks := tk' }) :
    wpAny (model PySem.Challenge.rw_no0235_01.row.prog w) (ktrTop dp un gd cn cs L a ccd cl outer) (call (.ref 159) [.str x t, .int c tc]) Q E s := by
  revert X; k_fill; intro X; w_top off
  refine wpAny_call ?_
  k_dflt (refine' code_def (binds := [(Str.ofString "body", .str x t), (Str.ofString "width", .int c tc)]) ?k1 ?k2 ?k3 ?k4 ?k5 ?kA ?kF ?kK ?k6 ?k7 ?k8 ?k9 ?kB ?_ ?c2 ?c3 ?c4 ?c5; (case kA => exact rfl); (case kF => exact rfl); (case kK => assumption); (case k1 => k_asm); (case k2 => k_asm); (case k3 => k_asm); (case k4 => k_asm); (case k5 => k_asm); (case k6 => k_is); (case k7 => k_is); (case k8 => ktr_room); (case k9 => exact BindsTo.of_eq (by with_unfolding_all rfl)); (case c5 => decide); (case kB => exact locs rfl); (case c2 => exact rfl); (case c3 => exact rfl); (case c4 => exact rfl); k_whole; intro g' L' h' FG' F' N' B' X' T'; (try dsimp only); (try k_lift B'); (try k_fold))
  k_steps
  all_goals first | exact ret_S (hret _ _ _ (by k_asm) (by k_asm)) (if_pos (by assumption)).symm | exact ret_S (hret _ _ _ (by k_asm) (by k_asm)) (if_neg (by assumption)).symm

structure Cd where
  line : Int
  label : Str
  mark : Str
  body : Str

structure T8 where
  a : Tok
  b : Tok
  c : Tok
  d : Tok
  e : Tok
  f : Tok
  g : Tok
  h : Tok

abbrev cardDict (w : World) (c : Cd) (t : T8) : Obj :=
  dictOf [{ hash := PyData.keyHash w.params "line", key := Value.str "line" t.a, val := Value.int c.line t.b },
    { hash := PyData.keyHash w.params "label", key := Value.str "label" t.c, val := Value.str c.label t.d },
    { hash := PyData.keyHash w.params "mark", key := Value.str "mark" t.e, val := Value.str c.mark t.f },
    { hash := PyData.keyHash w.params "body", key := Value.str "body" t.g, val := Value.str c.body t.h }] 4

set_option maxHeartbeats 4000000 in
theorem card_c {w : World} {mean : ExcName → Option Value} {mg mb : Str → Option Value} {dp un : Nat} {gd : Option (List Code)} {cn : Str} {cs : Scope} {a : Addr} {ccd : Value} {cl : List (Str × Addr)} {outer : List Env} {A₀ : Around} {base h₀ : Heap} {L : Addr} {m : Str → Option Value} {s : Shared} {Q E : Value → Shared → Prop} {i : Int} {ti t1 t2 t3 : Tok} {x y z : Str} {news : List (Addr × Obj)}
    (B : Below A₀ base outer h₀) (F : Fr h₀ L s.heap m) (X : (K0 w.params).In h₀) (T : Top V0 (looseW V0 []) mean mg mb h₀) (hk : cs.kind = .function) (N : News h₀ L s.heap news) (hd' : dp + 2 < recursionLimit) (hu : un + 16 < cLine)
    (hret : ∀ x' d' t h' tk', (∀ p ∈ news, p.1 < d') → d' < x' → Fr h₀ L h' m → News h₀ L h' ((x', instObj 106 d') :: (d', cardDict w ⟨i, x, y, z⟩ t) :: news) → Q (.ref x') { s with heap := h', toks := tk' }) :
    wpAny (model PySem.Challenge.rw_no0235_01.row.prog w) (ktrTop dp un gd cn cs L a ccd cl outer) (call (.ref 106) [.int i ti, .str x t1, .str y t2, .str z t3]) Q E s := by
  revert X; k_fill; intro X; w_top off
  k_dflt (refine' call_cls ?k1 ?k2 ?k3 ?k4 ?k5 ?k6 ?_; (case k1 => k_asm); (case k2 => k_asm); (case k3 => k_asm); (case k4 => k_is); (case k5 => k_is); (case k6 => k_is); k_whole; intro x' d' h' F' N' l1 l2; (try k_lt2 l2); (try k_sweep))
  k_dflt (refine' code_def (binds := [(Str.ofString "self", .ref x'), (Str.ofString "line", .int i ti), (Str.ofString "label", .str x t1), (Str.ofString "mark", .str y t2), (Str.ofString "body", .str z t3)]) ?k1 ?k2 ?k3 ?k4 ?k5 ?kA ?kF ?kK ?k6 ?k7 ?k8 ?k9 ?kB ?_ ?c2 ?c3 ?c4 ?c5; (case kA => exact rfl); (case kF => exact rfl); (case kK => assumption); (case k1 => k_asm); (case k2 => k_asm); (case k3 => k_asm); (case k4 => k_asm); (case k5 => k_asm); (case k6 => k_is); (case k7 => k_is); (case k8 => ktr_room); (case k9 => exact BindsTo.of_eq (by with_unfolding_all rfl)); (case c5 => decide); (case kB => exact locs rfl); (case c2 => exact rfl); (case c3 => exact rfl); (case c4 => exact rfl); k_whole; intro g' L' h' FG' F' N' B' X' T'; (try dsimp only); (try k_lift B'); (try k_fold))
  k_steps
  rename News h₀ L _ _ => kN
  exact hret x' d' ⟨_, _, _, _, _, _, _, _⟩ _ _ l1 l2 (by k_asm) kN

/-- v is a card object whose fields are c, in the ledger -/
def IsCard (w : World) (news : List (Addr × Obj)) (v : Value) (c : Cd) : Prop := ∃ x d t, v = .ref x ∧ (x, instObj 106 d) ∈ news ∧ (d, cardDict w c t) ∈ news
theorem IsCard.mono {w : World} {news news' : List (Addr × Obj)} {v : Value} {c : Cd} (h : IsCard w news v c) (hs : ∀ p ∈ news, p ∈ news') : IsCard w news' v c :=
  let ⟨x, d, t, e, h1, h2⟩ := h; ⟨x, d, t, e, hs _ h1, hs _ h2⟩

def isCont (c : Cd) : Bool := c.mark != (" " : Str) && c.mark != ("0" : Str)

set_option maxHeartbeats 4000000 in
theorem cont_c {w : World} {mean : ExcName → Option Value} {mg mb : Str → Option Value} {dp un : Nat} {gd : Option (List Code)} {cn : Str} {cs : Scope} {a : Addr} {ccd : Value} {cl : List (Str × Addr)} {outer : List Env} {A₀ : Around} {base h₀ : Heap} {L : Addr} {m : Str → Option Value} {s : Shared} {Q E : Value → Shared → Prop} {v : Value} {c : Cd} {news nl : List (Addr × Obj)}
    (B : Below A₀ base outer h₀) (F : Fr h₀ L s.heap m) (X : (K0 w.params).In h₀) (T : Top V0 (looseW V0 []) mean mg mb h₀) (hk : cs.kind = .function) (N : News h₀ L s.heap news) (hc : IsCard w nl v c) (hsl : ∀ p ∈ nl, p ∈ news) (hd' : dp + 2 < recursionLimit) (hu : un + 16 < cLine)
    (hret : ∀ h' tk', Fr h₀ L h' m → News h₀ L h' news → Q (.bool (isCont c)) { s with heap := h', toks := tk' }) :
    wpAny (model PySem.Challenge.rw_no0235_01.row.prog w) (ktrTop dp un gd cn cs L a ccd cl outer) (call (.ref 145) [v]) Q E s := by
  obtain ⟨x, d, t, rfl, hx, hdd⟩ := hc.mono hsl
  revert X; k_fill; intro X; w_top off
  refine wpAny_call ?_
  k_dflt (refine' code_def (binds := [(Str.ofString "card", .ref x)]) ?k1 ?k2 ?k3 ?k4 ?k5 ?kA ?kF ?kK ?k6 ?k7 ?k8 ?k9 ?kB ?_ ?c2 ?c3 ?c4 ?c5; (case kA => exact rfl); (case kF => exact rfl); (case kK => assumption); (case k1 => k_asm); (case k2 => k_asm); (case k3 => k_asm); (case k4 => k_asm); (case k5 => k_asm); (case k6 => k_is); (case k7 => k_is); (case k8 => ktr_room); (case k9 => exact BindsTo.of_eq (by with_unfolding_all rfl)); (case c5 => decide); (case kB => exact locs rfl); (case c2 => exact rfl); (case c3 => exact rfl); (case c4 => exact rfl); k_whole; intro g' L' h' FG' F' N' B' X' T'; (try dsimp only); (try k_lift B'); (try k_fold))
  k_steps
  all_goals first | exact ret_B (hret _ _ (by k_asm) (by k_asm)) (by simp only [isCont, *, Bool.true_and, Bool.false_and])

abbrev limDict (w : World) (a b c d e f g h : Int) (t u : T8) : Obj :=
  dictOf [{ hash := PyData.keyHash w.params "width", key := Value.str "width" t.a, val := Value.int a u.a },
    { hash := PyData.keyHash w.params "real_digits", key := Value.str "real_digits" t.b, val := Value.int b u.b },
    { hash := PyData.keyHash w.params "double_digits", key := Value.str "double_digits" t.c, val := Value.int c u.c },
    { hash := PyData.keyHash w.params "top_exponent", key := Value.str "top_exponent" t.d, val := Value.int d u.d },
    { hash := PyData.keyHash w.params "steps", key := Value.str "steps" t.e, val := Value.int e u.e },
    { hash := PyData.keyHash w.params "continuations", key := Value.str "continuations" t.f, val := Value.int f u.f },
    { hash := PyData.keyHash w.params "columns", key := Value.str "columns" t.g, val := Value.int g u.g },
    { hash := PyData.keyHash w.params "depth", key := Value.str "depth" t.h, val := Value.int h u.h }] 8

set_option maxHeartbeats 4000000 in
theorem lim_c {w : World} {mean : ExcName → Option Value} {mg mb : Str → Option Value} {dp un : Nat} {gd : Option (List Code)} {cn : Str} {cs : Scope} {a : Addr} {ccd : Value} {cl : List (Str × Addr)} {outer : List Env} {A₀ : Around} {base h₀ : Heap} {L : Addr} {m : Str → Option Value} {s : Shared} {Q E : Value → Shared → Prop} {v1 v2 v3 v4 v5 v6 v7 v8 : Int} {t1 t2 t3 t4 t5 t6 t7 t8 : Tok} {news : List (Addr × Obj)}
    (B : Below A₀ base outer h₀) (F : Fr h₀ L s.heap m) (X : (K0 w.params).In h₀) (T : Top V0 (looseW V0 []) mean mg mb h₀) (hk : cs.kind = .function) (N : News h₀ L s.heap news) (hd' : dp + 2 < recursionLimit) (hu : un + 16 < cLine)
    (hret : ∀ x' d' t u h' tk', (∀ p ∈ news, p.1 < d') → d' < x' → Fr h₀ L h' m → News h₀ L h' ((x', instObj 85 d') :: (d', limDict w v1 v2 v3 v4 v5 v6 v7 v8 t u) :: news) → Q (.ref x') { s with heap := h', toks := tk' }) :
    wpAny (model PySem.Challenge.rw_no0235_01.row.prog w) (ktrTop dp un gd cn cs L a ccd cl outer) (call (.ref 85) [.int v1 t1, .int v2 t2, .int v3 t3, .int v4 t4, .int v5 t5, .int v6 t6, .int v7 t7, .int v8 t8]) Q E s := by
  revert X; k_fill; intro X; w_top off
  k_dflt (refine' call_cls ?k1 ?k2 ?k3 ?k4 ?k5 ?k6 ?_; (case k1 => k_asm); (case k2 => k_asm); (case k3 => k_asm); (case k4 => k_is); (case k5 => k_is); (case k6 => k_is); k_whole; intro x' d' h' F' N' l1 l2; (try k_lt2 l2); (try k_sweep))
  k_dflt (refine' code_def ?k1 ?k2 ?k3 ?k4 ?k5 ?kA ?kF ?kK ?k6 ?k7 ?k8 ?k9 ?kB ?_ ?c2 ?c3 ?c4 ?c5; (case kA => exact rfl); (case kF => exact rfl); (case kK => assumption); (case k1 => k_asm); (case k2 => k_asm); (case k3 => k_asm); (case k4 => k_asm); (case k5 => k_asm); (case k6 => k_is); (case k7 => k_is); (case k8 => ktr_room); (case k9 => exact binds_K (by k_in) rfl (by k_is) rfl rfl rfl); (case c5 => decide); (case kB => exact locs rfl); (case c2 => exact rfl); (case c3 => exact rfl); (case c4 => exact rfl); k_whole; intro g' L' h' FG' F' N' B' X' T'; (try dsimp only); (try k_lift B'); (try k_fold))
  k_steps
  rename News h₀ L _ _ => kN
  exact hret x' d' ⟨_, _, _, _, _, _, _, _⟩ ⟨_, _, _, _, _, _, _, _⟩ _ _ l1 l2 (by k_asm) kN

def IsLim (w : World) (news : List (Addr × Obj)) (v : Value) (cont cols : Int) : Prop :=
  ∃ x d a b c e f g t u, v = .ref x ∧ (x, instObj 85 d) ∈ news ∧ (d, limDict w a b c e f cont cols g t u) ∈ news
theorem IsLim.mono {w : World} {news news' : List (Addr × Obj)} {v : Value} {i j : Int} (h : IsLim w news v i j) (hs : ∀ p ∈ news, p ∈ news') : IsLim w news' v i j :=
  let ⟨x, d, a, b, c, e, f, g, t, u, q, h1, h2⟩ := h; ⟨x, d, a, b, c, e, f, g, t, u, q, hs _ h1, hs _ h2⟩


def headS (label : Int) : Str := if 0 < label then Str.ofString (toString label) ++ Txt.mul " " (5 + 1 - (Str.ofString (toString label)).length) else "      "
def row0 (label : Int) (x : Str) (width : Int) : Str := headS label ++ Txt.slice x none (some width)
def contRow (x : Str) (width at_ : Int) : Str := Txt.mul " " 5 ++ "+" ++ Txt.slice x (some at_) (some (at_ + width))
def contRows (x : Str) (width : Int) (k : Nat) : List Str := (List.range k).map fun (i : Nat) => contRow x width (((i : Int) + 1) * width)
/-- how many rows go on -/
def nCont (x : Str) (width : Int) : Nat := (x.length - 1) / width.toNat
def rowsOf (label : Int) (x : Str) (width : Int) : List Str := row0 label x width :: contRows x width (nCont x width)

theorem contRows_succ (x : Str) (width : Int) (k : Nat) : contRows x width (k + 1) = contRows x width k ++ [contRow x width (((k : Int) + 1) * width)] := by
  unfold contRows; rw [List.range_succ]; simp

theorem contRows_length (x : Str) (width : Int) (k : Nat) : (contRows x width k).length = k := by simp [contRows]
theorem nCont_le (x : Str) (width : Int) : nCont x width ≤ x.length := by
  unfold nCont
  exact Nat.le_trans (Nat.div_le_self _ _) (Nat.sub_le _ _)

structure WSt where
  k : Nat
  ys : List Value
  nn : Nat
  t : Tok
  at_ : Int
  l : Addr

theorem lt_nCont {x : Str} {w : Int} {k : Nat} (hw : 0 < w) (h : ((k : Int) + 1) * w < x.length) : k + 1 ≤ nCont x w := by
  obtain ⟨W, rfl⟩ : ∃ W : Nat, w = (W : Int) := ⟨w.toNat, by omega⟩
  have h' : (k + 1) * W < x.length := by exact_mod_cast h
  unfold nCont
  rw [Int.toNat_natCast]
  exact (Nat.le_div_iff_mul_le (by omega)).mpr (by omega)
theorem nCont_lt {x : Str} {w : Int} {k : Nat} (hw : 0 < w) (h : ¬ ((k : Int) + 1) * w < x.length) : nCont x w ≤ k := by
  obtain ⟨W, rfl⟩ : ∃ W : Nat, w = (W : Int) := ⟨w.toNat, by omega⟩
  have h' : ¬ (k + 1) * W < x.length := by
    intro q; apply h; exact_mod_cast q
  unfold nCont
  rw [Int.toNat_natCast]
  have h2 : (x.length - 1) / W < k + 1 := (Nat.div_lt_iff_lt_mul (by omega)).mpr (by have : 0 < (k + 1) * W := Nat.mul_pos (by omega) (by omega); omega)
  omega

theorem next_at (k : Nat) (w : Int) : ((k : Int) + 1) * w + w = (((k + 1 : Nat) : Int) + 1) * w := by
  have e : (((k + 1 : Nat)) : Int) = (k : Int) + 1 := by omega
  rw [e, Int.add_mul ((k : Int) + 1) 1 w, Int.one_mul]

set_option maxHeartbeats 4000000 in
theorem rows_c {w : World} {mean : ExcName → Option Value} {mg mb : Str → Option Value} {dp un : Nat} {gd : Option (List Code)} {cn : Str} {cs : Scope} {a : Addr} {ccd : Value} {cl : List (Str × Addr)} {outer : List Env} {A₀ : Around} {base h₀ : Heap} {L : Addr} {m : Str → Option Value} {s : Shared} {Q E : Value → Shared → Prop} {label : Int} {tl tx : Tok} {x : Str} {v : Value} {cont cols : Int} {news nl : List (Addr × Obj)}
    (B : Below A₀ base outer h₀) (F : Fr h₀ L s.heap m) (X : (K0 w.params).In h₀) (T : Top V0 (looseW V0 []) mean mg mb h₀) (hk : cs.kind = .function) (N : News h₀ L s.heap news) (hlim : IsLim w nl v cont cols) (hsl : ∀ p ∈ nl, p ∈ news) (hl0 : 0 ≤ label) (hl1 : label < 100000) (hx : x.length ≤ 1000) (hc : 8 ≤ cols ∧ cols ≤ 60) (hcn : 0 ≤ cont ∧ cont ≤ 1000) (hfit : (nCont x (cols - 5 - 1) : Int) ≤ cont) (hd' : dp + 3 < recursionLimit) (hu : un + 32 < cLine)
    (hret : ∀ l vs nn h' tk', (∀ p ∈ news, p.1 < l) → StrsAre vs (rowsOf label x (cols - 5 - 1)) → Fr h₀ L h' m → News h₀ L h' ((l, listOf vs.toArray nn) :: news) → Q (.ref l) { s with heap := h', toks := tk' }) :
    wpAny (model PySem.Challenge.rw_no0235_01.row.prog w) (ktrTop dp un gd cn cs L a ccd cl outer) (call (.ref 60) [.int label tl, .str x tx, v]) Q E s := by
  obtain ⟨xl, d, a, b, c, e, f, g, t, u, rfl, hx1, hx2⟩ := hlim.mono hsl
  have hw : 0 < cols - 5 - 1 := by omega
  have hnc := nCont_le x (cols - 5 - 1)
  revert X; k_fill; intro X; w_top off
  refine wpAny_call ?_
  k_dflt (refine' code_def (binds := [(Str.ofString "label", .int label tl), (Str.ofString "text", .str x tx), (Str.ofString "limits", .ref xl)]) ?k1 ?k2 ?k3 ?k4 ?k5 ?kA ?kF ?kK ?k6 ?k7 ?k8 ?k9 ?kB ?_ ?c2 ?c3 ?c4 ?c5; (case kA => exact rfl); (case kF => exact rfl); (case kK => assumption); (case k1 => k_asm); (case k2 => k_asm); (case k3 => k_asm); (case k4 => k_asm); (case k5 => k_asm); (case k6 => k_is); (case k7 => k_is); (case k8 => ktr_room); (case k9 => exact BindsTo.of_eq (by with_unfolding_all rfl)); (case c5 => decide); (case kB => exact locs rfl); (case c2 => exact rfl); (case c3 => exact rfl); (case c4 => exact rfl); k_whole; intro g' L' h' FG' F' N' B' X' T'; (try dsimp only); (try k_lift B'); (try k_fold))
  k_steps
  all_goals
    rename Fr _ _ _ _ => F1
    rename News _ _ _ _ => N1
    refine' While_M (σ := WSt) [] (fun c => [(Str.ofString "at", .int c.at_ c.t), (Str.ofString "rows", .ref c.l)]) (fun c => (c.l, listOf c.ys.toArray c.nn) :: news) (fun c => nCont x (cols - 5 - 1) - c.k)
      (fun c => (∀ p ∈ news, p.1 < c.l) ∧ c.k ≤ nCont x (cols - 5 - 1) ∧ c.at_ = ((c.k : Int) + 1) * (cols - 5 - 1) ∧ StrsAre c.ys (row0 label x (cols - 5 - 1) :: contRows x (cols - 5 - 1) c.k)) F1 N1 ?start ?turn
    case start =>
      refine ⟨⟨0, _, 0, _, cols - 5 - 1, _⟩, fun p hp => hp, List.forall_mem_cons.mpr ⟨rfl, List.forall_mem_cons.mpr ⟨rfl, List.forall_mem_nil _⟩⟩, ?_⟩
      refine ⟨by assumption, Nat.zero_le _, by simp, ?_⟩
      first
        | (have e0 : headS label = _ := if_pos (by assumption)
           unfold row0; rw [e0]; exact .cons _ _ .nil)
        | (have e0 : headS label = _ := if_neg (by assumption)
           unfold row0; rw [e0]; exact .cons _ _ .nil)
    case turn =>
      intro cZ0 u h tk cZ4 F2 N2
      (try k_fold)
      obtain ⟨k, ys, nn, t', at_, l⟩ := cZ0
      obtain ⟨hk0, hk1, hk2, hk3⟩ := cZ4
      dsimp only at hk0 hk1 hk2 hk3 F2 N2
      have hne : ∀ p ∈ news, p.1 ≠ l := fun p hp => Nat.ne_of_lt (hk0 p hp)
      have hyl := hk3.length
      rw [List.length_cons, contRows_length] at hyl
      (try k_fold)
      k_steps
      · rename (at_ < (x.length : Int)) => hlt
        rename Fr _ _ _ _ => F9
        rename News _ _ _ _ => N9
        refine EndM.intro ⟨k + 1, ys ++ [_], nn + 1, _, _, l⟩ F9 N9 ⟨List.forall_mem_cons.mpr ⟨rfl, List.forall_mem_cons.mpr ⟨rfl, List.forall_mem_nil _⟩⟩, ?_⟩ ⟨?_, hk0, ?_, ?_, ?_⟩ (List.forall_mem_nil _) sub_push (fun _ _ _ q => nomatch q)
        · intro z h2 h3
          simp only [List.forall_mem_cons, List.not_mem_nil, false_implies, implies_true, and_true, ne_eq] at h2
          simp [kstB, h2.1, h2.2]
        · have := lt_nCont hw (hk2 ▸ hlt)
          dsimp only; omega
        · exact lt_nCont hw (hk2 ▸ hlt)
        · dsimp only
          rw [hk2]; exact next_at k _
        · dsimp only
          rw [contRows_succ, ← List.cons_append, ← hk2]
          exact hk3.append' (.cons _ _ .nil)
      · have e : k = nCont x (cols - 5 - 1) := Nat.le_antisymm hk1 (nCont_lt hw (hk2 ▸ (by assumption)))
        subst e
        exact hret _ _ _ _ _ hk0 hk3 (by k_asm) (by k_asm)

theorem reg23 : True := by
  k_with "call ref" => (k_here; (with_reducible show wpAny _ _ (call (Value.ref 60) [Value.int _ _, Value.str _ _, _]) _ _ _); k_dflt (refine' Mine.rows_c ?B ?F ?X ?T ?hk ?N ?hl ?hs ?h1 ?h2 ?h3 ?h4 ?h5 ?h6 ?d ?u ?_; (case B => k_asm); (case F => k_asm); (case X => k_asm); (case T => k_asm); (case hk => first | exact rfl | assumption); (case N => k_asm); (case d => ktr_room); (case u => ktr_units); (case hl => assumption); (case hs => first | exact fun _ h => h | assumption | (intro pZ hpZ; simp [hpZ])); (case h1 => first | assumption | omega); (case h2 => first | assumption | omega); (case h3 => first | assumption | omega); (case h4 => omega); (case h5 => omega); (case h6 => first | assumption | omega)); intro l9Z vs9Z nn9Z h9Z tk9Z l1Z hS9Z F9Z N9Z; (have hL9Z := PyProof.Rows.StrsAre.length hS9Z); (try dsimp only); (try k_sweep); (try k_fold))
  k_with "binaryOp Add ref ref" => (k_here; (with_reducible show wpAny _ _ (binaryOp Operator.Add (Value.ref _) (Value.ref _)) _ _ _); k_dflt (refine' Mine.add_L ?F ?N ?a ?b ?z ?_; (case F => k_asm); (case N => k_asm); (case a => k_mem); (case b => k_mem); (case z => omega); k_whole); intro l9Z h9Z l1Z F9Z N9Z; (try k_sweep))
  trivial
def pairD (p : Int × Str) : Dat := .tuple [.int p.1, .str p.2]
theorem datTuple_inv {news : List (Addr × Obj)} {v : Value} {ds : List Dat} (h : DatIn news v (.tuple ds)) : ∃ a vs n, v = .ref a ∧ (a, ({ cls := .type "tuple", data := .seq vs.toArray n } : Obj)) ∈ news ∧ DatAll news vs ds := by
  cases h with
  | tuple h1 h2 => exact ⟨_, _, _, rfl, h1, h2⟩
theorem datInt_inv {news : List (Addr × Obj)} {v : Value} {i : Int} (h : DatIn news v (.int i)) : ∃ t, v = .int i t := by
  cases h; exact ⟨_, rfl⟩
theorem datStr_inv {news : List (Addr × Obj)} {v : Value} {x : Str} (h : DatIn news v (.str x)) : ∃ t, v = .str x t := by
  cases h; exact ⟨_, rfl⟩
theorem datCons_inv {news : List (Addr × Obj)} {vs : List Value} {d : Dat} {ds : List Dat} (h : DatAll news vs (d :: ds)) : ∃ v ws, vs = v :: ws ∧ DatIn news v d ∧ DatAll news ws ds := by
  cases h with
  | cons h1 h2 => exact ⟨_, _, rfl, h1, h2⟩
theorem datNil_inv {news : List (Addr × Obj)} {vs : List Value} (h : DatAll news vs []) : vs = [] := by cases h; rfl
theorem pairD_inv {news : List (Addr × Obj)} {v : Value} {p : Int × Str} (h : DatIn news v (pairD p)) : ∃ a t u n, v = .ref a ∧ (a, ({ cls := .type "tuple", data := .seq #[.int p.1 t, .str p.2 u] n } : Obj)) ∈ news := by
  obtain ⟨a, vs, n, rfl, h1, h2⟩ := datTuple_inv h
  obtain ⟨v1, w1, rfl, h3, h4⟩ := datCons_inv h2
  obtain ⟨v2, w2, rfl, h5, h6⟩ := datCons_inv h4
  obtain rfl := datNil_inv h6
  obtain ⟨t, rfl⟩ := datInt_inv h3
  obtain ⟨u, rfl⟩ := datStr_inv h5
  exact ⟨a, t, u, n, rfl, h1⟩
theorem datGet {news : List (Addr × Obj)} {vs : List Value} {ds : List Dat} {i : Nat} {v : Value} (h : DatAll news vs ds) (hv : vs[i]? = some v) : ∃ d, ds[i]? = some d ∧ DatIn news v d := by
  have hi : i < vs.length := (List.getElem?_eq_some_iff.mp hv).1
  rw [h.length] at hi
  obtain ⟨w, hw, hd⟩ := h.get hi
  rw [hv] at hw
  obtain rfl := Option.some.inj hw
  exact ⟨_, List.getElem?_eq_getElem hi, hd⟩

theorem flatMap_len {α β : Type} {f : α → List β} {c : Nat} : ∀ {l : List α}, (∀ p ∈ l, (f p).length ≤ c) → (l.flatMap f).length ≤ l.length * c
  | [], _ => by simp
  | a :: l, h => by
    have h1 := h a (.head _)
    have h2 := flatMap_len (l := l) fun p hp => h p (.tail _ hp)
    rw [List.flatMap_cons, List.length_append, List.length_cons, Nat.add_mul]; omega
theorem rowsOf_len (label : Int) (x : Str) (width : Int) (h : x.length ≤ 1000) : (rowsOf label x width).length ≤ 1001 := by
  have := nCont_le x width
  simp only [rowsOf, List.length_cons, contRows_length]; omega

structure LSt where
  ys : List Value
  nn : Nat
  l : Addr

set_option maxHeartbeats 4000000 in
theorem list_c {w : World} {mean : ExcName → Option Value} {mg mb : Str → Option Value} {dp un : Nat} {gd : Option (List Code)} {cn : Str} {cs : Scope} {a : Addr} {ccd : Value} {cl : List (Str × Addr)} {outer : List Env} {A₀ : Around} {base h₀ : Heap} {L : Addr} {m : Str → Option Value} {s : Shared} {Q E : Value → Shared → Prop} {lp : Addr} {vs : List Value} {nn : Nat} {ps : List (Int × Str)} {v : Value} {cont cols : Int} {news nl : List (Addr × Obj)}
    (B : Below A₀ base outer h₀) (F : Fr h₀ L s.heap m) (X : (K0 w.params).In h₀) (T : Top V0 (looseW V0 []) mean mg mb h₀) (hk : cs.kind = .function) (N : News h₀ L s.heap news) (hlim : IsLim w nl v cont cols) (hsl : ∀ p ∈ nl, p ∈ news) (hl : (lp, listOf vs.toArray nn) ∈ news) (hd : DatAll news vs (ps.map pairD)) (hps : ∀ p ∈ ps, 0 ≤ p.1 ∧ p.1 < 100000 ∧ p.2.length ≤ 1000 ∧ (nCont p.2 (cols - 5 - 1) : Int) ≤ cont)
    (hpl : ps.length ≤ 10) (hc : 8 ≤ cols ∧ cols ≤ 60) (hcn : 0 ≤ cont ∧ cont ≤ 1000) (hd' : dp + 4 < recursionLimit) (hu : un + 40 < cLine)
    (hret : ∀ l vs nn h' tk', (∀ p ∈ news, p.1 < l) → StrsAre vs (ps.flatMap fun p => rowsOf p.1 p.2 (cols - 5 - 1)) → Fr h₀ L h' m → News h₀ L h' ((l, listOf vs.toArray nn) :: news) → Q (.ref l) { s with heap := h', toks := tk' }) :
    wpAny (model PySem.Challenge.rw_no0235_01.row.prog w) (ktrTop dp un gd cn cs L a ccd cl outer) (call (.ref 67) [.ref lp, v]) Q E s := by
  replace hlim := hlim.mono hsl
  revert X; k_fill; intro X; w_top off
  refine wpAny_call ?_
  k_dflt (refine' code_def (binds := [(Str.ofString "pairs", .ref lp), (Str.ofString "limits", v)]) ?k1 ?k2 ?k3 ?k4 ?k5 ?kA ?kF ?kK ?k6 ?k7 ?k8 ?k9 ?kB ?_ ?c2 ?c3 ?c4 ?c5; (case kA => exact rfl); (case kF => exact rfl); (case kK => assumption); (case k1 => k_asm); (case k2 => k_asm); (case k3 => k_asm); (case k4 => k_asm); (case k5 => k_asm); (case k6 => k_is); (case k7 => k_is); (case k8 => ktr_room); (case k9 => exact BindsTo.of_eq (by with_unfolding_all rfl)); (case c5 => decide); (case kB => exact locs rfl); (case c2 => exact rfl); (case c3 => exact rfl); (case c4 => exact rfl); k_whole; intro g' L' h' FG' F' N' B' X' T'; (try dsimp only); (try k_lift B'); (try k_fold))
  k_steps
  rename Fr _ _ _ _ => F1
  rename News _ _ _ _ => N1
  refine' list_M (σ := LSt) [Str.ofString "label", Str.ofString "text"] (fun c => [(Str.ofString "rows", .ref c.l)]) (fun c => (c.l, listOf c.ys.toArray c.nn) :: news)
    (fun i c => (∀ p ∈ news, p.1 < c.l) ∧ StrsAre c.ys ((ps.take i).flatMap fun p => rowsOf p.1 p.2 (cols - 5 - 1))) (by with_unfolding_all rfl) F1 N1 (.tail _ hl) (fun c => .tail _ hl) ?start ?turn ?done ?hE
  case hE => passes_own
  case start =>
    refine ⟨⟨[], 0, _⟩, fun p hp => hp, List.forall_mem_cons.mpr ⟨rfl, List.forall_mem_nil _⟩, by assumption, ?_⟩
    exact .nil
  case turn =>
    intro i v' cZ2 u h tk I oI hv htk cZ10 hI F2 N2
    (try k_fold)
    obtain ⟨ys, nn', l⟩ := cZ2
    obtain ⟨hk0, hk1⟩ := cZ10
    dsimp only at hk0 hk1 hI F2 N2
    obtain ⟨d, hd1, hd2⟩ := datGet hd hv
    obtain ⟨p, hp, rfl⟩ : ∃ p, ps[i]? = some p ∧ pairD p = d := by
      rw [List.getElem?_map] at hd1
      cases hq : ps[i]? with
      | none => rw [hq] at hd1; cases hd1
      | some p => rw [hq] at hd1; exact ⟨p, rfl, Option.some.inj hd1⟩
    obtain ⟨a', t', u', n', rfl, hm⟩ := pairD_inv hd2
    obtain ⟨hb1, hb2, hb3, hb4⟩ := hps p (List.mem_of_getElem? hp)
    have hz1 : ys.length ≤ 10 * 1001 := by
      have h1 := hk1.length
      have h2 : ((ps.take i).flatMap fun p => rowsOf p.1 p.2 (cols - 5 - 1)).length ≤ (ps.take i).length * 1001 := flatMap_len fun q hq => rowsOf_len _ _ _ (hps q (List.mem_of_mem_take hq)).2.2.1
      have h3 : (ps.take i).length ≤ 10 := by rw [List.length_take]; omega
      omega
    have hz2 := rowsOf_len p.1 p.2 (cols - 5 - 1) hb3
    (try k_fold)
    k_steps
    rename Fr _ _ _ _ => F9
    rename News _ _ _ _ => N9
    rename (∀ p : Addr × Obj, p ∈ _ → p.1 < _) => l1
    refine EndM.intro ⟨ys ++ _, _, _⟩ F9 N9 ⟨List.forall_mem_cons.mpr ⟨rfl, List.forall_mem_nil _⟩, ?_⟩ ⟨?_, ?_⟩ ?_ (sub_head (sub_skip (sub_skip (sub_skip sub_refl)))) (off_new l1 (.tail _ (.head _)) fun p hp => hI p (.tail _ hp))
    · (intro z h2 h3; simp only [List.forall_mem_cons, List.not_mem_nil, false_implies, implies_true, and_true, ne_eq] at h2; simp only [List.contains_cons, List.contains_nil, Bool.or_false, Bool.or_eq_false_iff, beq_eq_false_iff_ne, ne_eq] at h3; simp [kstB, List.contains_cons, h2, h3])
    · exact fun p hp => l1 p (.tail _ (.tail _ (.tail _ hp)))
    · rw [List.take_add_one, hp, List.flatMap_append]
      simp only [Option.toList, List.flatMap_cons, List.flatMap_nil, List.append_nil]
      exact hk1.append' (by assumption)
    · exact List.forall_mem_cons.mpr ⟨.tail _ (.tail _ (.head _)), List.forall_mem_nil _⟩
  case done =>
    rintro ⟨ys, nn', l⟩ u h tk htk ⟨hk0, hk1⟩ F2 N2
    dsimp only at hk0 hk1 F2 N2
    (try k_fold)
    k_steps
    have hlen : vs.length = ps.length := by rw [hd.length, List.length_map]
    rw [hlen, List.take_length] at hk1
    exact hret _ _ _ _ _ hk0 hk1 (by k_asm) (by k_asm)

theorem reg25 : True := by
  k_with "call builtin:str.split" => (k_here; (with_reducible show wpAny _ _ (call (Value.builtin "str.split") [Value.str _ _, Value.str _ _]) _ _ _); (refine' Mine.split_L2 ?hs ?F ?N ?hy ?z ?_; (case hs => assumption); (case F => k_asm); (case N => k_asm); (case hy => decide); (case z => omega)); intro D9Z us9Z t9Z h9Z tk9Z hS9Z l1Z F9Z N9Z; (have hL9Z := PyProof.Rows.StrsAre.length hS9Z); (try dsimp only))
  k_with "subscriptTail" => (k_here; (with_reducible show wpAny _ _ (subscriptTail _ _ (Value.ref _) (Value.int _ _)) _ _ _); k_dflt (refine' Mine.item_last ?N ?m ?k ?z ?_ ?s; (case N => k_asm); (case m => k_mem); (case k => (simp only [List.length_append, List.length_cons, List.length_nil]; omega)); (case z => omega); (case s => with_unfolding_all rfl); k_whole))
  k_with "call builtin:list.pop" => (k_here; (with_reducible show wpAny _ _ (call (Value.builtin _) [Value.ref _]) _ _ _); k_dflt (refine' Mine.pop_L ?F ?N ?U ?z ?_; (case F => k_asm); (case N => k_asm); (case U => k_upd); (case z => omega); k_whole); intro h9Z F9Z N9Z; (try dsimp only))
  trivial
def numFrom : Nat → List Str → List (Int × Str)
  | _, [] => []
  | k, r :: rs => ((k : Int) + 1, r) :: numFrom (k + 1) rs
theorem numFrom_append : ∀ (a b : List Str) (k : Nat), numFrom k (a ++ b) = numFrom k a ++ numFrom (k + a.length) b
  | [], b, k => by simp [numFrom]
  | r :: a, b, k => by
    show (_ :: numFrom (k + 1) (a ++ b)) = _
    rw [numFrom_append a b (k + 1)]
    show _ = (_ :: numFrom (k + 1) a) ++ numFrom (k + (a.length + 1)) b
    rw [show k + 1 + a.length = k + (a.length + 1) by omega]; rfl
theorem numFrom_length : ∀ (a : List Str) (k : Nat), (numFrom k a).length = a.length
  | [], _ => rfl
  | _ :: a, k => by show (numFrom (k + 1) a).length + 1 = _; rw [numFrom_length a]; rfl
def rowsIn (rs : List Str) (z : Str) : List Str := if (z == ("" : Str)) = true then rs else rs ++ [z]

structure CSt where
  ys : List Value
  nn : Nat
  l : Addr
  tl : List (Addr × Obj)

set_option maxHeartbeats 4000000 in
theorem cards_c {w : World} {mean : ExcName → Option Value} {mg mb : Str → Option Value} {dp un : Nat} {gd : Option (List Code)} {cn : Str} {cs : Scope} {a : Addr} {ccd : Value} {cl : List (Str × Addr)} {outer : List Env} {A₀ : Around} {base h₀ : Heap} {L : Addr} {m : Str → Option Value} {s : Shared} {Q E : Value → Shared → Prop} {x : Str} {tx : Tok} {rs : List Str} {z : Str} {news : List (Addr × Obj)}
    (B : Below A₀ base outer h₀) (F : Fr h₀ L s.heap m) (X : (K0 w.params).In h₀) (T : Top V0 (looseW V0 []) mean mg mb h₀) (hk : cs.kind = .function) (N : News h₀ L s.heap news) (hx : x.length ≤ 100000) (hs : Txt.split x "\n" = rs ++ [z]) (hrl : rs.length ≤ 100000) (hd' : dp + 2 < recursionLimit) (hu : un + 16 < cLine)
    (hret : ∀ (l : Addr) (vs : List Value) nn tl h' tk', (∀ p ∈ news, p.1 < l) → (∀ q ∈ tl, ∀ p ∈ news, p.1 < q.1) → DatAll tl vs ((numFrom 0 (rowsIn rs z)).map pairD) → Fr h₀ L h' m → News h₀ L h' ((l, listOf vs.toArray nn) :: (tl ++ news)) → Q (.ref l) { s with heap := h', toks := tk' }) :
    wpAny (model PySem.Challenge.rw_no0235_01.row.prog w) (ktrTop dp un gd cn cs L a ccd cl outer) (call (.ref 117) [.str x tx]) Q E s := by
  revert X; k_fill; intro X; w_top off
  refine wpAny_call ?_
  k_dflt (refine' code_def (binds := [(Str.ofString "text", .str x tx)]) ?k1 ?k2 ?k3 ?k4 ?k5 ?kA ?kF ?kK ?k6 ?k7 ?k8 ?k9 ?kB ?_ ?c2 ?c3 ?c4 ?c5; (case kA => exact rfl); (case kF => exact rfl); (case kK => assumption); (case k1 => k_asm); (case k2 => k_asm); (case k3 => k_asm); (case k4 => k_asm); (case k5 => k_asm); (case k6 => k_is); (case k7 => k_is); (case k8 => ktr_room); (case k9 => exact BindsTo.of_eq (by with_unfolding_all rfl)); (case c5 => decide); (case kB => exact locs rfl); (case c2 => exact rfl); (case c3 => exact rfl); (case c4 => exact rfl); k_whole; intro g' L' h' FG' F' N' B' X' T'; (try dsimp only); (try k_lift B'); (try k_fold))
  k_steps
  all_goals
    rename StrsAre _ rs => hS9
    obtain ⟨us, rfl, _⟩ : ∃ y, y = _ ∧ StrsAre y rs := ⟨_, rfl, hS9⟩
    rename News _ _ _ ((_, _) :: (_, _) :: news) => N1
    rename Fr _ _ _ _ => F1
    obtain ⟨D, rfl, hD⟩ : ∃ y, y = _ ∧ (∀ p ∈ news, p.1 < y) := ⟨_, rfl, by assumption⟩
    obtain ⟨l, rfl, hlD, hl⟩ : ∃ y, y = _ ∧ D < y ∧ AllLt y news := ⟨_, rfl, by assumption⟩
    replace hl := ktn_ltOf hl
    obtain ⟨vr, kr, hS, N2⟩ : ∃ vr kr, StrsAre vr (rowsIn rs z) ∧ News g' L' _ ((l, listOf #[] 0) :: (D, listOf vr.toArray kr) :: news) := by
      first
        | exact ⟨_, _, (by rw [rowsIn, if_pos (by assumption)]; assumption), N1⟩
        | exact ⟨us ++ [_], _, (by rw [rowsIn, if_neg (by rw [‹(z == _) = false›]; decide)]; exact StrsAre.append' (by assumption) (.cons _ _ .nil)), N1⟩
    have hSl := hS.length
    have hrl2 : (rowsIn rs z).length ≤ 100001 := by unfold rowsIn; split <;> (try simp only [List.length_append, List.length_cons, List.length_nil]) <;> omega
    refine' list_M (σ := CSt) [Str.ofString "row"] (fun c => [(Str.ofString "out", .ref c.l)]) (fun c => (c.l, listOf c.ys.toArray c.nn) :: (c.tl ++ (D, listOf vr.toArray kr) :: news))
      (fun i c => (∀ p ∈ c.tl ++ (D, listOf vr.toArray kr) :: news, p.1 ≠ c.l) ∧ (∀ p ∈ news, p.1 < c.l) ∧ (∀ q ∈ c.tl, ∀ p ∈ news, p.1 < q.1) ∧ DatAll c.tl c.ys ((numFrom 0 ((rowsIn rs z).take i)).map pairD)) (by with_unfolding_all rfl) F1 N2 (.tail _ (.head _)) (fun c => .tail _ (List.mem_append_right _ (.head _))) ?start ?turn ?done ?hE
    case hE => passes_own
    case start =>
      refine ⟨⟨[], 0, _, []⟩, fun p hp => hp, List.forall_mem_cons.mpr ⟨rfl, List.forall_mem_nil _⟩, ?_, hl, fun _ h => (nomatch h), .nil⟩
      intro p hp
      rcases List.mem_cons.mp hp with rfl | hp
      · exact Nat.ne_of_lt hlD
      · exact Nat.ne_of_lt (hl p hp)
    case turn =>
      intro i v' cZ2 u h tk I oI hv htk cZ10 hI F3 N3
      (try k_fold)
      obtain ⟨ys, nn', l, tl⟩ := cZ2
      obtain ⟨hk0, hk1, hk2, hk3⟩ := cZ10
      dsimp only at hk0 hk1 hk2 hk3 hI F3 N3
      obtain ⟨r, t', rfl, hr⟩ := hS.item i v' hv
      have hi : i < (rowsIn rs z).length := (List.getElem?_eq_some_iff.mp hr).1
      have hyl := hk3.length
      rw [List.length_map, numFrom_length, List.length_take] at hyl
      have hIl := neN (hI _ (.head _))
      (try k_fold)
      k_steps
      obtain ⟨D', rfl, hD1, hD2, hD3⟩ : ∃ y, y = _ ∧ I < y ∧ l < y ∧ AllLt y (tl ++ (D, listOf vr.toArray kr) :: news) := ⟨_, rfl, by assumption⟩
      replace hD3 := ktn_ltOf hD3
      rename Fr _ _ _ _ => F9
      rename News _ _ _ _ => N9
      refine EndM.intro ⟨ys ++ [.ref D'], nn' + 1, l, (D', _) :: tl⟩ F9 N9 ⟨List.forall_mem_cons.mpr ⟨rfl, List.forall_mem_nil _⟩, ?_⟩ ⟨?_, hk1, ?_, ?_⟩ ?_ sub_x1 ?_
      · (intro z h2 h3; simp only [List.forall_mem_cons, List.not_mem_nil, false_implies, implies_true, and_true, ne_eq] at h2; simp only [List.contains_cons, List.contains_nil, Bool.or_false, Bool.or_eq_false_iff, beq_eq_false_iff_ne, ne_eq] at h3; simp [kstB, List.contains_cons, h2, h3])
      · intro p hp
        rcases List.mem_cons.mp hp with rfl | hp
        · exact Nat.ne_of_gt hD2
        · exact hk0 p hp
      · intro q hq p hp
        rcases List.mem_cons.mp hq with rfl | hq
        · exact hD3 p (List.mem_append_right _ (.tail _ hp))
        · exact hk2 q hq p hp
      · rw [List.take_add_one, hr, numFrom_append, List.map_append]
        refine (hk3.mono fun p hp => .tail _ hp).append (.one ?_)
        have e : (((0 + ((rowsIn rs z).take i).length : Nat) : Int) + 1, r) = (((ys.length : Nat) : Int) + 1, r) := by
          rw [List.length_take, hyl, Nat.zero_add]
        show DatIn _ _ (pairD (((0 + ((rowsIn rs z).take i).length : Nat) : Int) + 1, r))
        rw [e]
        exact .tuple (.head _) (.cons (.int _ _) (.cons (.str _ _) .nil))
      · exact List.forall_mem_cons.mpr ⟨.tail _ (.head _), List.forall_mem_nil _⟩
      · intro p hp q hq
        rw [List.mem_singleton.mp hq]
        rcases List.mem_cons.mp hp with rfl | hp
        · exact hIl
        · rcases List.mem_cons.mp hp with rfl | hp
          · exact Nat.ne_of_gt hD1
          · exact hI p (.tail _ hp)
    case done =>
      rintro ⟨ys, nn', l, tl⟩ u h tk htk ⟨hk0, hk1, hk2, hk3⟩ F3 N3
      dsimp only at hk0 hk1 hk2 hk3 F3 N3
      (try k_fold)
      k_steps
      rw [hSl, List.take_length] at hk3
      exact hret _ _ _ _ _ _ hk1 hk2 hk3 (by k_asm) (newsSub (by k_asm) (sub_head sub_app))

theorem reg27 : True := by
  k_with "call ref" => (k_here; (with_reducible show wpAny _ _ (call (Value.ref 131) [Value.str _ _, Value.int _ _]) _ _ _); k_dflt (refine' Mine.ic_c ?B ?F ?X ?T ?hk ?N ?h1 ?h2 ?d ?u ?_; (case B => k_asm); (case F => k_asm); (case X => k_asm); (case T => k_asm); (case hk => first | exact rfl | assumption); (case N => k_asm); (case d => ktr_room); (case u => ktr_units); (case h1 => first | assumption | omega); (case h2 => omega)); intro h9Z tk9Z F9Z N9Z; (try dsimp only); (try k_sweep); (try k_fold))
  k_with "call ref" => (k_here; (with_reducible show wpAny _ _ (call (Value.ref 117) [Value.str _ _]) _ _ _); k_dflt (refine' Mine.cards_c ?B ?F ?X ?T ?hk ?N ?h1 ?h2 ?h3 ?d ?u ?_; (case B => k_asm); (case F => k_asm); (case X => k_asm); (case T => k_asm); (case hk => first | exact rfl | assumption); (case N => k_asm); (case d => ktr_room); (case u => ktr_units); (case h1 => first | assumption | omega); (case h2 => assumption); (case h3 => omega)); intro l9Z vs9Z nn9Z tl9Z h9Z tk9Z l1Z l2Z hS9Z F9Z N9Z; (try dsimp only); (try k_sweep); (try k_fold))
  k_with "call ref" => (k_here; (with_reducible show wpAny _ _ (call (Value.ref 106) [Value.int _ _, Value.str _ _, Value.str _ _, Value.str _ _]) _ _ _); k_dflt (refine' Mine.card_c ?B ?F ?X ?T ?hk ?N ?d ?u ?_; (case B => k_asm); (case F => k_asm); (case X => k_asm); (case T => k_asm); (case hk => first | exact rfl | assumption); (case N => k_asm); (case d => ktr_room); (case u => ktr_units)); intro x9Z d9Z t9Z h9Z tk9Z l1Z l2Z F9Z N9Z; (have l1aZ := l1Z); (try k_lt l1Z); (try k_lt2 l2Z); (try dsimp only); (try k_sweep); (try k_fold))
  trivial
def seenOf (row : Str) (cols : Int) : Str :=
  if ((Txt.slice row none (some cols)).length : Int) < 6 then Txt.slice row none (some cols) ++ Txt.mul " " (6 - (Txt.slice row none (some cols)).length) else Txt.slice row none (some cols)
def cardOf (cols : Int) (p : Int × Str) : Cd := ⟨p.1, Txt.slice (seenOf p.2 cols) none (some 5), Txt.item (seenOf p.2 cols) 5, Txt.slice (seenOf p.2 cols) (some 6) none⟩
def readCards (cols : Int) (ps : List (Int × Str)) : List Cd := (ps.filter fun p => !isCm p.2 cols).map (cardOf cols)
theorem numFrom_mem {p : Int × Str} : ∀ {rs : List Str} {k : Nat}, p ∈ numFrom k rs → p.2 ∈ rs
  | r :: rs, k, h => by
    rcases List.mem_cons.mp h with rfl | h
    · exact .head _
    · exact .tail _ (numFrom_mem h)
theorem readCards_len (cols : Int) (ps : List (Int × Str)) : (readCards cols ps).length ≤ ps.length := by
  unfold readCards; rw [List.length_map]; exact List.length_filter_le _ _
inductive CardsAre (w : World) (news : List (Addr × Obj)) : List Value → List Cd → Prop
  | nil : CardsAre w news [] []
  | cons {v : Value} {c : Cd} {vs : List Value} {cs : List Cd} : IsCard w news v c → CardsAre w news vs cs → CardsAre w news (v :: vs) (c :: cs)
theorem CardsAre.mono {w : World} {news news' : List (Addr × Obj)} (hs : ∀ p ∈ news, p ∈ news') {vs : List Value} {cs : List Cd} (h : CardsAre w news vs cs) : CardsAre w news' vs cs := by
  induction h with
  | nil => exact .nil
  | cons h _ ih => exact .cons (h.mono hs) ih
theorem CardsAre.append {w : World} {news : List (Addr × Obj)} {vs ws : List Value} {cs ds : List Cd} (h : CardsAre w news vs cs) (k : CardsAre w news ws ds) : CardsAre w news (vs ++ ws) (cs ++ ds) := by
  induction h with
  | nil => exact k
  | cons h _ ih => exact .cons h ih
theorem CardsAre.length {w : World} {news : List (Addr × Obj)} {vs : List Value} {cs : List Cd} (h : CardsAre w news vs cs) : vs.length = cs.length := by
  induction h with
  | nil => rfl
  | cons _ _ ih => simp [ih]
theorem CardsAre.item {w : World} {news : List (Addr × Obj)} {vs : List Value} {cs : List Cd} (h : CardsAre w news vs cs) : ∀ {i : Nat} {v : Value}, vs[i]? = some v → ∃ c, cs[i]? = some c ∧ IsCard w news v c := by
  induction h with
  | nil => intro i v h; cases h
  | cons h _ ih =>
    intro i v hv
    cases i with
    | zero => cases hv; exact ⟨_, rfl, h⟩
    | succ i => exact ih hv

set_option maxHeartbeats 4000000 in
theorem read_c {w : World} {mean : ExcName → Option Value} {mg mb : Str → Option Value} {dp un : Nat} {gd : Option (List Code)} {cn : Str} {cs : Scope} {a : Addr} {ccd : Value} {cl : List (Str × Addr)} {outer : List Env} {A₀ : Around} {base h₀ : Heap} {L : Addr} {m : Str → Option Value} {s : Shared} {Q E : Value → Shared → Prop} {x : Str} {tx : Tok} {rs : List Str} {z : Str} {v : Value} {cont cols : Int} {news : List (Addr × Obj)}
    (B : Below A₀ base outer h₀) (F : Fr h₀ L s.heap m) (X : (K0 w.params).In h₀) (T : Top V0 (looseW V0 []) mean mg mb h₀) (hk : cs.kind = .function) (N : News h₀ L s.heap news) (hlim : IsLim w news v cont cols) (hx : x.length ≤ 100000) (hs : Txt.split x "\n" = rs ++ [z]) (hrl : rs.length ≤ 100000) (hrx : ∀ r ∈ rowsIn rs z, r.length ≤ 1000) (hc : 8 ≤ cols ∧ cols ≤ 60) (hd' : dp + 4 < recursionLimit) (hu : un + 40 < cLine)
    (hret : ∀ (l : Addr) (vs : List Value) nn tl h' tk', (∀ p ∈ news, p.1 < l) → (∀ q ∈ tl, ∀ p ∈ news, p.1 < q.1) → CardsAre w tl vs (readCards cols (numFrom 0 (rowsIn rs z))) → Fr h₀ L h' m → News h₀ L h' ((l, listOf vs.toArray nn) :: (tl ++ news)) → Q (.ref l) { s with heap := h', toks := tk' }) :
    wpAny (model PySem.Challenge.rw_no0235_01.row.prog w) (ktrTop dp un gd cn cs L a ccd cl outer) (call (.ref 138) [.str x tx, v]) Q E s := by
  obtain ⟨xl, d, a, b, c, e, f, g, t, u, rfl, hx1, hx2⟩ := hlim
  revert X; k_fill; intro X; w_top off
  refine wpAny_call ?_
  k_dflt (refine' code_def (binds := [(Str.ofString "text", .str x tx), (Str.ofString "limits", .ref xl)]) ?k1 ?k2 ?k3 ?k4 ?k5 ?kA ?kF ?kK ?k6 ?k7 ?k8 ?k9 ?kB ?_ ?c2 ?c3 ?c4 ?c5; (case kA => exact rfl); (case kF => exact rfl); (case kK => assumption); (case k1 => k_asm); (case k2 => k_asm); (case k3 => k_asm); (case k4 => k_asm); (case k5 => k_asm); (case k6 => k_is); (case k7 => k_is); (case k8 => ktr_room); (case k9 => exact BindsTo.of_eq (by with_unfolding_all rfl)); (case c5 => decide); (case kB => exact locs rfl); (case c2 => exact rfl); (case c3 => exact rfl); (case c4 => exact rfl); k_whole; intro g' L' h' FG' F' N' B' X' T'; (try dsimp only); (try k_lift B'); (try k_fold))
  k_steps
  rename DatAll _ _ _ => hS9
  obtain ⟨l, rfl, hl⟩ : ∃ y, y = _ ∧ (∀ p ∈ news, p.1 < y) := ⟨_, rfl, by assumption⟩
  obtain ⟨tl0, vs0, rfl, rfl, _⟩ : ∃ y z', y = _ ∧ z' = _ ∧ DatAll y z' ((numFrom 0 (rowsIn rs z)).map pairD) := ⟨_, _, rfl, rfl, hS9⟩
  obtain ⟨lc, rfl, hlc⟩ : ∃ y, y = _ ∧ (∀ p ∈ (l, listOf #[] 0) :: news, p.1 < y) := ⟨_, rfl, by assumption⟩
  rename (∀ q ∈ tl0, ∀ p ∈ (l, listOf #[] 0) :: news, p.1 < q.1) => htl0
  rename News _ _ _ ((lc, listOf _ _) :: _) => N1
  rename Fr _ _ _ _ => F1
  obtain ⟨nn0, N2⟩ : ∃ nn0, News g' L' _ ((lc, listOf vs0.toArray nn0) :: (tl0 ++ (l, listOf #[] 0) :: news)) := ⟨_, N1⟩
  refine' list_M (σ := CSt) [Str.ofString "line", Str.ofString "row", Str.ofString "seen"] (fun c => [(Str.ofString "cards", .ref c.l)]) (fun c => (c.l, listOf c.ys.toArray c.nn) :: (c.tl ++ (lc, listOf vs0.toArray nn0) :: (tl0 ++ news)))
    (fun i c => (∀ p ∈ c.tl ++ (lc, listOf vs0.toArray nn0) :: (tl0 ++ news), p.1 ≠ c.l) ∧ (∀ p ∈ news, p.1 < c.l) ∧ (∀ q ∈ c.tl, ∀ p ∈ news, p.1 < q.1) ∧ CardsAre w c.tl c.ys (readCards cols ((numFrom 0 (rowsIn rs z)).take i))) (by with_unfolding_all rfl) F1 N2 (.head _) (fun c => .tail _ (List.mem_append_right _ (.head _))) ?start ?turn ?done ?hE
  case hE => passes_own
  case start =>
    refine ⟨⟨[], 0, l, []⟩, ?_, List.forall_mem_cons.mpr ⟨rfl, List.forall_mem_nil _⟩, ?_, hl, fun _ h => (nomatch h), .nil⟩
    · intro p hp
      rcases List.mem_cons.mp hp with rfl | hp
      · exact .tail _ (List.mem_append_right _ (.head _))
      · rcases List.mem_cons.mp hp with rfl | hp
        · exact .head _
        · exact .tail _ ((List.mem_append.mp hp).elim (fun h => List.mem_append_left _ h) fun h => List.mem_append_right _ (.tail _ h))
    · intro p hp
      rcases List.mem_cons.mp hp with rfl | hp
      · exact Nat.ne_of_gt (hlc _ (.head _))
      · rcases List.mem_append.mp hp with hp | hp
        · exact Nat.ne_of_gt (htl0 p hp _ (.head _))
        · exact Nat.ne_of_lt (hl p hp)
  case turn =>
    intro i v' cZ2 u' h tk I oI hv htk cZ10 hI F3 N3
    (try k_fold)
    obtain ⟨ys, nn', l, tl⟩ := cZ2
    obtain ⟨hk0, hk1, hk2, hk3⟩ := cZ10
    dsimp only at hk0 hk1 hk2 hk3 hI F3 N3
    obtain ⟨dd, hd1, hd2⟩ := datGet hS9 hv
    obtain ⟨p, hp, rfl⟩ : ∃ p, (numFrom 0 (rowsIn rs z))[i]? = some p ∧ pairD p = dd := by
      rw [List.getElem?_map] at hd1
      cases hq : (numFrom 0 (rowsIn rs z))[i]? with
      | none => rw [hq] at hd1; cases hd1
      | some p => rw [hq] at hd1; exact ⟨p, rfl, Option.some.inj hd1⟩
    obtain ⟨a', t', u', n', rfl, hm⟩ := pairD_inv hd2
    have hm' : (a', _) ∈ tl ++ (lc, listOf vs0.toArray nn0) :: (tl0 ++ news) := List.mem_append_right _ (.tail _ (List.mem_append_left _ hm))
    have hx1' : (xl, _) ∈ tl ++ (lc, listOf vs0.toArray nn0) :: (tl0 ++ news) := List.mem_append_right _ (.tail _ (List.mem_append_right _ hx1))
    have hx2' : (d, _) ∈ tl ++ (lc, listOf vs0.toArray nn0) :: (tl0 ++ news) := List.mem_append_right _ (.tail _ (List.mem_append_right _ hx2))
    have hpl : p.2.length ≤ 1000 := hrx _ (numFrom_mem (List.mem_of_getElem? hp))
    have hyl := hk3.length
    have hrc := readCards_len cols ((numFrom 0 (rowsIn rs z)).take i)
    have hrn : ((numFrom 0 (rowsIn rs z)).take i).length ≤ 100001 := by
      rw [List.length_take, numFrom_length]
      unfold rowsIn
      split <;> (try simp only [List.length_append, List.length_cons, List.length_nil]) <;> omega
    have hIl := neN (show l ≠ I from hI _ (.head _))
    have htake : (numFrom 0 (rowsIn rs z)).take (i + 1) = (numFrom 0 (rowsIn rs z)).take i ++ [p] := by rw [List.take_add_one, hp]; rfl
    (try k_fold)
    k_steps
    · dsimp only
      rename isCm _ _ = true => hcm
      rename Fr _ _ _ _ => F9
      rename News _ _ _ _ => N9
      refine EndM.cont ⟨ys, nn', l, tl⟩ F9 N9 ⟨List.forall_mem_cons.mpr ⟨rfl, List.forall_mem_nil _⟩, ?_⟩ ⟨hk0, hk1, hk2, ?_⟩ (List.forall_mem_cons.mpr ⟨.head _, List.forall_mem_nil _⟩) (fun p hp => .tail _ hp) (off_same hI)
      · (intro z h2 h3; simp only [List.forall_mem_cons, List.not_mem_nil, false_implies, implies_true, and_true, ne_eq] at h2; simp only [List.contains_cons, List.contains_nil, Bool.or_false, Bool.or_eq_false_iff, beq_eq_false_iff_ne, ne_eq] at h3; simp [kstB, List.contains_cons, h2, h3])
      · have e : readCards cols ((numFrom 0 (rowsIn rs z)).take (i + 1)) = readCards cols ((numFrom 0 (rowsIn rs z)).take i) := by
          rw [htake]; simp [readCards, hcm]
        dsimp only
        rw [e]; exact hk3
    all_goals
      rename isCm _ _ = false => hcm
      rename Fr _ _ _ _ => F9
      obtain ⟨x9, d9, rfl, rfl, hd9, hdx⟩ : ∃ x9 d9, x9 = _ ∧ d9 = _ ∧ (∀ p ∈ (I, oI) :: (l, listOf ys.toArray nn') :: (tl ++ (lc, listOf vs0.toArray nn0) :: (tl0 ++ news)), p.1 < d9) ∧ d9 < x9 := ⟨_, _, rfl, rfl, by assumption, by assumption⟩
      rename News _ _ _ ((x9, _) :: _) => N9
      obtain ⟨sn, hsn, N8⟩ : ∃ t9, seenOf p.2 cols = seenOf p.2 cols ∧ News _ _ _ ((x9, instObj 106 d9) :: (d9, cardDict w (cardOf cols p) t9) :: _) := by
        first
          | (have e : seenOf p.2 cols = _ := if_pos (by assumption)
             unfold cardOf; rw [e]; exact ⟨_, rfl, N9⟩)
          | (have e : seenOf p.2 cols = _ := if_neg (by assumption)
             unfold cardOf; rw [e]; exact ⟨_, rfl, N9⟩)
      refine EndM.intro ⟨ys ++ [.ref x9], nn' + 1, l, (x9, _) :: (d9, _) :: tl⟩ F9 N8 ⟨List.forall_mem_cons.mpr ⟨rfl, List.forall_mem_nil _⟩, ?_⟩ ⟨?_, hk1, ?_, ?_⟩ ?_ sub_x2 ?_
      · (intro z h2 h3; simp only [List.forall_mem_cons, List.not_mem_nil, false_implies, implies_true, and_true, ne_eq] at h2; simp only [List.contains_cons, List.contains_nil, Bool.or_false, Bool.or_eq_false_iff, beq_eq_false_iff_ne, ne_eq] at h3; simp [kstB, List.contains_cons, h2, h3])
      · intro p hp
        rcases List.mem_cons.mp hp with rfl | hp
        · exact Nat.ne_of_gt (Nat.lt_trans (hd9 _ (.tail _ (.head _))) hdx)
        · rcases List.mem_cons.mp hp with rfl | hp
          · exact Nat.ne_of_gt (hd9 _ (.tail _ (.head _)))
          · exact hk0 p hp
      · intro q hq p hp
        have hpd : p.1 < d9 := hd9 p (.tail _ (.tail _ (List.mem_append_right _ (.tail _ (List.mem_append_right _ hp)))))
        rcases List.mem_cons.mp hq with rfl | hq
        · exact Nat.lt_trans hpd hdx
        · rcases List.mem_cons.mp hq with rfl | hq
          · exact hpd
          · exact hk2 q hq p hp
      · have e : readCards cols ((numFrom 0 (rowsIn rs z)).take (i + 1)) = readCards cols ((numFrom 0 (rowsIn rs z)).take i) ++ [cardOf cols p] := by
          rw [htake]; simp [readCards, hcm]
        dsimp only
        rw [e]
        exact (hk3.mono fun p hp => .tail _ (.tail _ hp)).append (.cons ⟨_, _, _, rfl, .head _, .tail _ (.head _)⟩ .nil)
      · exact List.forall_mem_cons.mpr ⟨.tail _ (.tail _ (.head _)), List.forall_mem_nil _⟩
      · intro p hp q hq
        rw [List.mem_singleton.mp hq]
        have hId := hd9 _ (.head _)
        rcases List.mem_cons.mp hp with rfl | hp
        · exact hIl
        · rcases List.mem_cons.mp hp with rfl | hp
          · exact Nat.ne_of_gt (Nat.lt_trans hId hdx)
          · rcases List.mem_cons.mp hp with rfl | hp
            · exact Nat.ne_of_gt hId
            · exact hI p (.tail _ hp)
  case done =>
    rintro ⟨ys, nn', l, tl⟩ u' h tk htk ⟨hk0, hk1, hk2, hk3⟩ F3 N3
    dsimp only at hk0 hk1 hk2 hk3 F3 N3
    (try k_fold)
    k_steps
    have hvl : vs0.length = (numFrom 0 (rowsIn rs z)).length := by rw [hS9.length, List.length_map]
    rw [hvl, List.take_length] at hk3
    refine hret _ ys nn' tl _ _ hk1 hk2 hk3 (by k_asm) (newsSub (by k_asm) ?_)
    exact sub_head fun p hp => (List.mem_append.mp hp).elim (fun h => List.mem_append_left _ h) fun h => List.mem_append_right _ (.tail _ (List.mem_append_right _ h))

/-- the label that a text of digits tells -/
def valD : List Nat → Int → Int
  | [], a => a
  | c :: cs, a => valD cs (a * 10 + ((c : Int) - 48))
theorem valD_append : ∀ (cs : List Nat) (c : Nat) (a : Int), valD (cs ++ [c]) a = valD cs a * 10 + ((c : Int) - 48)
  | [], _, _ => rfl
  | d :: cs, c, a => valD_append cs c _
def labelIn (x : Str) : Str := Txt.replace x " " ""
def labelV (x : Str) : Int := valD (labelIn x).cps.toList 0
/-- a label that can be read -/
def okLabel (x : Str) : Prop := (labelIn x).length ≤ 5 ∧ (∀ c ∈ (labelIn x).cps.toList, 48 ≤ c ∧ c ≤ 57) ∧ (labelIn x = "" ∨ labelV x ≠ 0)
theorem valD_bound : ∀ (cs : List Nat) (a : Int) (k : Int), 0 ≤ a → a ≤ k → (∀ c ∈ cs, 48 ≤ c ∧ c ≤ 57) → 0 ≤ valD cs a ∧ valD cs a ≤ (k + 1) * 10 ^ cs.length
  | [], a, k, h0, h1, _ => ⟨h0, by simp [valD]; omega⟩
  | c :: cs, a, k, h0, h1, h => by
    have hc := h c (.head _)
    have ih := valD_bound cs (a * 10 + ((c : Int) - 48)) (k * 10 + 9) (by omega) (by omega) fun d hd => h d (.tail _ hd)
    refine ⟨ih.1, Int.le_trans ih.2 (Int.le_of_eq ?_)⟩
    rw [List.length_cons, Int.pow_succ, show k * 10 + 9 + 1 = (k + 1) * 10 by omega, Int.mul_assoc, Int.mul_comm 10]
theorem find_digit {c : Nat} (h : 48 ≤ c ∧ c ≤ 57) : Txt.find "0123456789" ⟨#[c]⟩ = (c : Int) - 48 := by
  have : ∀ k, k < 10 → Txt.find "0123456789" ⟨#[k + 48]⟩ = ((k + 48 : Nat) : Int) - 48 := by decide +kernel
  have e : c = (c - 48) + 48 := by omega
  rw [e]; exact this (c - 48) (by omega)

set_option maxHeartbeats 4000000 in
theorem label_c {w : World} {mean : ExcName → Option Value} {mg mb : Str → Option Value} {dp un : Nat} {gd : Option (List Code)} {cn : Str} {cs : Scope} {a : Addr} {ccd : Value} {cl : List (Str × Addr)} {outer : List Env} {A₀ : Around} {base h₀ : Heap} {L : Addr} {m : Str → Option Value} {s : Shared} {Q E : Value → Shared → Prop} {v : Value} {c : Cd} {news nl : List (Addr × Obj)}
    (B : Below A₀ base outer h₀) (F : Fr h₀ L s.heap m) (X : (K0 w.params).In h₀) (T : Top V0 (looseW V0 []) mean mg mb h₀) (hk : cs.kind = .function) (N : News h₀ L s.heap news) (hcd : IsCard w nl v c) (hsl : ∀ p ∈ nl, p ∈ news) (hx : c.label.length ≤ 100000) (hlab : okLabel c.label) (hd' : dp + 2 < recursionLimit) (hu : un + 16 < cLine)
    (hret : ∀ t h' tk', Fr h₀ L h' m → News h₀ L h' news → Q (.int (labelV c.label) t) { s with heap := h', toks := tk' }) :
    wpAny (model PySem.Challenge.rw_no0235_01.row.prog w) (ktrTop dp un gd cn cs L a ccd cl outer) (call (.ref 152) [v]) Q E s := by
  obtain ⟨x, d, t, rfl, hx1, hx2⟩ := hcd.mono hsl
  obtain ⟨hl5, hdig, hnz⟩ := hlab
  revert X; k_fill; intro X; w_top off
  refine wpAny_call ?_
  k_dflt (refine' code_def (binds := [(Str.ofString "card", .ref x)]) ?k1 ?k2 ?k3 ?k4 ?k5 ?kA ?kF ?kK ?k6 ?k7 ?k8 ?k9 ?kB ?_ ?c2 ?c3 ?c4 ?c5; (case kA => exact rfl); (case kF => exact rfl); (case kK => assumption); (case k1 => k_asm); (case k2 => k_asm); (case k3 => k_asm); (case k4 => k_asm); (case k5 => k_asm); (case k6 => k_is); (case k7 => k_is); (case k8 => ktr_room); (case k9 => exact BindsTo.of_eq (by with_unfolding_all rfl)); (case c5 => decide); (case kB => exact locs rfl); (case c2 => exact rfl); (case c3 => exact rfl); (case c4 => exact rfl); k_whole; intro g' L' h' FG' F' N' B' X' T'; (try dsimp only); (try k_lift B'); (try k_fold))
  k_steps
  · rename (_ == _) = true => he
    refine ret_I (hret _ _ _ (by k_asm) (by k_asm)) ?_
    have : labelIn c.label = "" := by unfold labelIn; exact eq_of_beq he
    rw [labelV, this]; rfl
  · rename Fr _ _ _ _ => F1
    rename News _ _ _ _ => N1
    rename (_ == _) = false => he
    refine' str_M (σ := Int × Tok) [Str.ofString "sign", Str.ofString "digit"] (fun c => [(Str.ofString "label", .int c.1 c.2)]) (fun _ => news)
      (fun i q => q.1 = valD ((labelIn c.label).cps.toList.take i) 0) (by with_unfolding_all rfl) F1 N1 ?start ?turn ?done ?hE
    case hE => passes_own
    case start => exact ⟨(0, _), fun p hp => hp, List.forall_mem_cons.mpr ⟨rfl, List.forall_mem_nil _⟩, rfl⟩
    case turn =>
      intro i cp t' cZ3 u' h tk I oI hcp htk hk0 hI F3 N3
      (try k_fold)
      obtain ⟨lab, tl⟩ := cZ3
      dsimp only at hk0 F3 N3
      have hcp' : (labelIn c.label).cps.toList[i]? = some cp := by rw [Array.getElem?_toList]; exact hcp
      have hcd := hdig cp (List.mem_of_getElem? hcp')
      have hf := find_digit hcd
      have hb := valD_bound ((labelIn c.label).cps.toList.take i) 0 0 (Int.le_refl _) (Int.le_refl _) fun q hq => hdig q (List.mem_of_mem_take hq)
      have hb2 : lab ≤ 100000 := by
        rw [hk0]
        refine Int.le_trans hb.2 ?_
        have hlen : ((labelIn c.label).cps.toList.take i).length ≤ 5 := by
          rw [List.length_take]
          have : (labelIn c.label).cps.toList.length ≤ 5 := by simpa [PySem.Str.length] using hl5
          omega
        generalize ((labelIn c.label).cps.toList.take i).length = n at hlen
        rcases n with _ | _ | _ | _ | _ | _ | n <;> first | decide | omega
      have hb1 : 0 ≤ lab := by rw [hk0]; exact hb.1
      (try k_fold)
      k_steps
      rename Fr _ _ _ _ => F9
      rename News _ _ _ _ => N9
      refine EndM.intro (_, _) F9 N9 ⟨List.forall_mem_cons.mpr ⟨rfl, List.forall_mem_nil _⟩, ?_⟩ ?_ (List.forall_mem_cons.mpr ⟨.head _, List.forall_mem_nil _⟩) (fun p hp => .tail _ hp) (off_same hI)
      · (intro z h2 h3; simp only [List.forall_mem_cons, List.not_mem_nil, false_implies, implies_true, and_true, ne_eq] at h2; simp only [List.contains_cons, List.contains_nil, Bool.or_false, Bool.or_eq_false_iff, beq_eq_false_iff_ne, ne_eq] at h3; simp [kstB, List.contains_cons, h2, h3])
      · dsimp only
        rw [List.take_add_one, hcp', Option.toList, valD_append, ← hk0, hf]
    case done =>
      rintro ⟨lab, tl⟩ u' h tk htk hk0 F3 N3
      dsimp only at hk0 F3 N3
      have e : lab = labelV c.label := by
        rw [hk0, labelV]
        congr 1
        exact List.take_of_length_le (by simp [labelIn])
      have hne : lab ≠ 0 := by
        rcases hnz with h | h
        · unfold labelIn at h; rw [h] at he; exact absurd he (by decide)
        · rw [e]; exact h
      (try k_fold)
      k_steps
      · exact absurd (by assumption) hne
      · exact ret_I (hret _ _ _ (by k_asm) (by k_asm)) e

theorem reg31 : True := by
  k_with "subscriptTail" => (k_here; (with_reducible show wpAny _ _ (subscriptTail _ _ (Value.ref _) (Value.int 0 _)) _ _ _); k_dflt (refine' Mine.item_first ?N ?m ?_ ?s; (case N => k_asm); (case m => k_mem); (case s => with_unfolding_all rfl); k_whole))
  k_with "call ref" => (k_here; (with_reducible show wpAny _ _ (call (Value.ref 145) [_]) _ _ _); k_dflt (refine' Mine.cont_c ?B ?F ?X ?T ?hk ?N ?h1 ?h2 ?d ?u ?_; (case B => k_asm); (case F => k_asm); (case X => k_asm); (case T => k_asm); (case hk => first | exact rfl | assumption); (case N => k_asm); (case d => ktr_room); (case u => ktr_units); (case h1 => assumption); (case h2 => first | exact fun _ h => h | assumption | (intro pZ hpZ; simp [hpZ]))); intro h9Z tk9Z F9Z N9Z; (try dsimp only); (try k_sweep); (try k_fold))
  k_with "call ref" => (k_here; (with_reducible show wpAny _ _ (call (Value.ref 152) [_]) _ _ _); k_dflt (refine' Mine.label_c ?B ?F ?X ?T ?hk ?N ?h1 ?h2 ?h3 ?h4 ?d ?u ?_; (case B => k_asm); (case F => k_asm); (case X => k_asm); (case T => k_asm); (case hk => first | exact rfl | assumption); (case N => k_asm); (case d => ktr_room); (case u => ktr_units); (case h1 => assumption); (case h2 => first | exact fun _ h => h | assumption | (intro pZ hpZ; simp [hpZ])); (case h3 => first | assumption | omega); (case h4 => assumption)); intro t9Z h9Z tk9Z F9Z N9Z; (try dsimp only); (try k_sweep); (try k_fold))
  k_with "call ref" => (k_here; (with_reducible show wpAny _ _ (call (Value.ref 159) [Value.str _ _, Value.int _ _]) _ _ _); k_dflt (refine' Mine.pad_c ?B ?F ?X ?T ?hk ?N ?h1 ?h2 ?d ?u ?_; (case B => k_asm); (case F => k_asm); (case X => k_asm); (case T => k_asm); (case hk => first | exact rfl | assumption); (case N => k_asm); (case d => ktr_room); (case u => ktr_units); (case h1 => first | assumption | omega); (case h2 => omega)); intro t9Z h9Z tk9Z F9Z N9Z;  (try dsimp only); (try k_sweep); (try k_fold))
  k_with "subscriptTail" => (k_here; (with_reducible show wpAny _ _ (subscriptTail _ _ (Value.ref _) (Value.int (Nat.cast _) _)) _ _ _); k_dflt (refine' Mine.itemV ?N ?m ?v ?a ?b ?_ ?s; (case N => k_asm); (case m => k_mem); (case v => assumption); (case a => omega); (case b => omega); (case s => with_unfolding_all rfl); k_whole))
  trivial
set_option maxHeartbeats 4000000 in
theorem check_c {w : World} {mean : ExcName → Option Value} {mg mb : Str → Option Value} {dp un : Nat} {gd : Option (List Code)} {cn : Str} {cs : Scope} {a : Addr} {ccd : Value} {cl : List (Str × Addr)} {outer : List Env} {A₀ : Around} {base h₀ : Heap} {L : Addr} {m : Str → Option Value} {s : Shared} {Q E : Value → Shared → Prop} {v lv : Value} {lr : Addr} {c c0 : Cd} {cr : List Cd} {rvs : List Value} {nr : Nat} {cont cols : Int} {news nl : List (Addr × Obj)}
    (B : Below A₀ base outer h₀) (F : Fr h₀ L s.heap m) (X : (K0 w.params).In h₀) (T : Top V0 (looseW V0 []) mean mg mb h₀) (hk : cs.kind = .function) (N : News h₀ L s.heap news) (hlim : IsLim w nl lv cont cols) (hcd : IsCard w nl v c) (hrs : CardsAre w nl rvs (c0 :: cr)) (hsl : ∀ p ∈ nl, p ∈ news) (hl : (lr, listOf rvs.toArray nr) ∈ news)
    (h1 : labelIn c.label = "") (h2 : ((c0 :: cr).length : Int) ≤ cont) (h3 : labelIn c0.body ≠ "END") (h4 : c.label.length ≤ 1000) (h5 : c0.body.length ≤ 1000) (h6 : cont ≤ 1000) (hd' : dp + 2 < recursionLimit) (hu : un + 16 < cLine)
    (hret : ∀ h' tk', Fr h₀ L h' m → News h₀ L h' news → Q .none { s with heap := h', toks := tk' }) :
    wpAny (model PySem.Challenge.rw_no0235_01.row.prog w) (ktrTop dp un gd cn cs L a ccd cl outer) (call (.ref 173) [v, .ref lr, lv]) Q E s := by
  obtain ⟨xl, dl, a, b, c', e, f, g, tt, uu, rfl, hl1, hl2⟩ := hlim.mono hsl
  obtain ⟨x, d, t, rfl, hx1, hx2⟩ := hcd.mono hsl
  have hrl := hrs.length
  cases hrs with
  | cons h0 hrs =>
  rename_i v0 vr
  obtain ⟨x0, d0, t0, rfl, hx01, hx02⟩ := h0.mono hsl
  rw [List.length_cons, List.length_cons] at hrl
  rw [List.length_cons] at h2
  have hL9 : ((Value.ref x0 :: vr).length : Int) = (cr.length : Int) + 1 := by rw [List.length_cons]; omega
  unfold labelIn at h1 h3
  revert X; k_fill; intro X; w_top off
  refine wpAny_call ?_
  k_dflt (refine' code_def (binds := [(Str.ofString "card", .ref x), (Str.ofString "rows", .ref lr), (Str.ofString "limits", .ref xl)]) ?k1 ?k2 ?k3 ?k4 ?k5 ?kA ?kF ?kK ?k6 ?k7 ?k8 ?k9 ?kB ?_ ?c2 ?c3 ?c4 ?c5; (case kA => exact rfl); (case kF => exact rfl); (case kK => assumption); (case k1 => k_asm); (case k2 => k_asm); (case k3 => k_asm); (case k4 => k_asm); (case k5 => k_asm); (case k6 => k_is); (case k7 => k_is); (case k8 => ktr_room); (case k9 => exact BindsTo.of_eq (by with_unfolding_all rfl)); (case c5 => decide); (case kB => exact locs rfl); (case c2 => exact rfl); (case c3 => exact rfl); (case c4 => exact rfl); k_whole; intro g' L' h' FG' F' N' B' X' T'; (try dsimp only); (try k_lift B'); (try k_fold))
  k_steps
  all_goals first
    | exact hret _ _ (by k_asm) (by k_asm)
    | (exfalso; omega)
    | (exfalso; exact h3 (eq_of_beq (by assumption)))
    | (exfalso; rename (_ != _) = true => hb; rw [h1] at hb; exact absurd hb (by decide))

/-- the text of the first k rows' bodies -/
def textUp (cs : List Cd) (width : Int) : Nat → Str
  | 0 => ""
  | k + 1 => textUp cs width k ++ (match cs[k]? with | some c => if k + 1 < cs.length then padS c.body width else c.body | none => "")
def joinedV (width : Int) (cs : List Cd) : Int × Int × Str := match cs with
  | [] => (0, 0, "")
  | c :: _ => (c.line, labelV c.label, textUp cs width cs.length)
def tripD (p : Int × Int × Str) : Dat := .tuple [.int p.1, .int p.2.1, .str p.2.2]
theorem textUp_len (cs : List Cd) (width : Int) (hb : ∀ c ∈ cs, c.body.length ≤ 100) (hw : width ≤ 100) : ∀ k, (textUp cs width k).length ≤ k * 100
  | 0 => by simp [textUp]; decide
  | k + 1 => by
    have ih := textUp_len cs width hb hw k
    show (textUp cs width k ++ _).length ≤ _
    rw [PySem.Str.length_append]
    have : (match cs[k]? with | some c => if k + 1 < cs.length then padS c.body width else c.body | none => ("" : Str)).length ≤ 100 := by
      cases hq : cs[k]? with
      | none => exact Nat.zero_le _
      | some c =>
        have h1 := hb c (List.mem_of_getElem? hq)
        have h2 := padS_len c.body width
        dsimp only
        split <;> omega
    omega

set_option maxHeartbeats 4000000 in
theorem joined_c {w : World} {mean : ExcName → Option Value} {mg mb : Str → Option Value} {dp un : Nat} {gd : Option (List Code)} {cn : Str} {cs : Scope} {a : Addr} {ccd : Value} {cl : List (Str × Addr)} {outer : List Env} {A₀ : Around} {base h₀ : Heap} {L : Addr} {m : Str → Option Value} {s : Shared} {Q E : Value → Shared → Prop} {lr : Addr} {tw : Tok} {width : Int} {c0 : Cd} {cr : List Cd} {rvs : List Value} {nr : Nat} {news nl : List (Addr × Obj)}
    (B : Below A₀ base outer h₀) (F : Fr h₀ L s.heap m) (X : (K0 w.params).In h₀) (T : Top V0 (looseW V0 []) mean mg mb h₀) (hk : cs.kind = .function) (N : News h₀ L s.heap news) (hrs : CardsAre w nl rvs (c0 :: cr)) (hsl : ∀ p ∈ nl, p ∈ news) (hl : (lr, listOf rvs.toArray nr) ∈ news)
    (h1 : okLabel c0.label) (h2 : labelIn (textUp (c0 :: cr) width (c0 :: cr).length) ≠ "") (h3 : cr.length ≤ 100) (h4 : c0.label.length ≤ 1000) (h5 : ∀ c ∈ c0 :: cr, c.body.length ≤ 100) (h6 : 0 ≤ width ∧ width ≤ 100) (hd' : dp + 4 < recursionLimit) (hu : un + 40 < cLine)
    (hret : ∀ a o h' tk', (∀ p ∈ news, p.1 < a) → DatIn [(a, o)] (.ref a) (tripD (joinedV width (c0 :: cr))) → Fr h₀ L h' m → News h₀ L h' ((a, o) :: news) → Q (.ref a) { s with heap := h', toks := tk' }) :
    wpAny (model PySem.Challenge.rw_no0235_01.row.prog w) (ktrTop dp un gd cn cs L a ccd cl outer) (call (.ref 166) [.ref lr, .int width tw]) Q E s := by
  have hrl := hrs.length
  have hrs' := hrs
  cases hrs' with
  | cons h0 hr' =>
  rename_i v0 vr
  obtain ⟨x0, d0, t0, rfl, hx01, hx02⟩ := h0.mono hsl
  have hL9 : ((Value.ref x0 :: vr).length : Int) = (cr.length : Int) + 1 := by rw [hrl, List.length_cons]; omega
  revert X; k_fill; intro X; w_top off
  refine wpAny_call ?_
  k_dflt (refine' code_def (binds := [(Str.ofString "rows", .ref lr), (Str.ofString "width", .int width tw)]) ?k1 ?k2 ?k3 ?k4 ?k5 ?kA ?kF ?kK ?k6 ?k7 ?k8 ?k9 ?kB ?_ ?c2 ?c3 ?c4 ?c5; (case kA => exact rfl); (case kF => exact rfl); (case kK => assumption); (case k1 => k_asm); (case k2 => k_asm); (case k3 => k_asm); (case k4 => k_asm); (case k5 => k_asm); (case k6 => k_is); (case k7 => k_is); (case k8 => ktr_room); (case k9 => exact BindsTo.of_eq (by with_unfolding_all rfl)); (case c5 => decide); (case kB => exact locs rfl); (case c2 => exact rfl); (case c3 => exact rfl); (case c4 => exact rfl); k_whole; intro g' L' h' FG' F' N' B' X' T'; (try dsimp only); (try k_lift B'); (try k_fold))
  k_steps
  rename Fr _ _ _ _ => F1
  rename News _ _ _ _ => N1
  rename IsRange _ _ _ _ _ _ _ _ => hR
  refine' range0_M (σ := Str × Tok) [Str.ofString "at"] (fun c => [(Str.ofString "text", .str c.1 c.2)]) (fun _ => news)
    (fun i q => q.1 = textUp (c0 :: cr) width i) (by with_unfolding_all rfl) hR (by omega) (by omega) F1 N1 ?start ?turn ?done ?hE
  case hE => passes_own
  case start => exact ⟨("", _), fun p hp => hp, List.forall_mem_cons.mpr ⟨rfl, List.forall_mem_nil _⟩, rfl⟩
  case turn =>
    intro i t' cZ2 u' h tk I oI hi htk hk0 hI F3 N3
    (try k_fold)
    obtain ⟨tx, ttx⟩ := cZ2
    dsimp only at hk0 F3 N3
    have hi' : i < (c0 :: cr).length := by rw [List.length_cons]; omega
    have hv : (Value.ref x0 :: vr)[((i : Int)).toNat]? = some ((Value.ref x0 :: vr)[i]'(by rw [hrl]; exact hi')) := by rw [Int.toNat_natCast]; exact List.getElem?_eq_getElem _
    obtain ⟨ci, hci, hcard⟩ := hrs.item (i := i) (List.getElem?_eq_getElem (by rw [hrl]; exact hi'))
    obtain ⟨xi, di, ti, hxi, hxi1, hxi2⟩ := hcard.mono hsl
    rw [hxi] at hv
    have hcb := h5 ci (List.mem_of_getElem? hci)
    have hpl := padS_len ci.body width
    have htl : tx.length ≤ 101 * 100 := by
      have h7 := textUp_len (c0 :: cr) width h5 h6.2 i
      have h8 := congrArg PySem.Str.length hk0
      omega
    (try k_fold)
    have hup : textUp (c0 :: cr) width (i + 1) = textUp (c0 :: cr) width i ++ (if i + 1 < (c0 :: cr).length then padS ci.body width else ci.body) := by
      show textUp (c0 :: cr) width i ++ _ = _
      rw [hci]
    have h8 : (c0 :: cr).length = cr.length + 1 := List.length_cons
    k_steps
    · rename Fr _ _ _ _ => F9
      rename News _ _ _ _ => N9
      rename ((i : Int) < _) => hlt
      refine EndM.intro (_, _) F9 N9 ⟨List.forall_mem_cons.mpr ⟨rfl, List.forall_mem_nil _⟩, ?_⟩ ?_ (List.forall_mem_cons.mpr ⟨.head _, List.forall_mem_nil _⟩) (fun p hp => .tail _ hp) (off_same hI)
      · (intro z h2 h3; simp only [List.forall_mem_cons, List.not_mem_nil, false_implies, implies_true, and_true, ne_eq] at h2; simp only [List.contains_cons, List.contains_nil, Bool.or_false, Bool.or_eq_false_iff, beq_eq_false_iff_ne, ne_eq] at h3; simp [kstB, List.contains_cons, h2, h3])
      · dsimp only
        rw [hup, if_pos (by omega), hk0]
    · rename Fr _ _ _ _ => F9
      rename News _ _ _ _ => N9
      rename (¬ (i : Int) < _) => hlt
      refine EndM.intro (_, _) F9 N9 ⟨List.forall_mem_cons.mpr ⟨rfl, List.forall_mem_nil _⟩, ?_⟩ ?_ (List.forall_mem_cons.mpr ⟨.head _, List.forall_mem_nil _⟩) (fun p hp => .tail _ hp) (off_same hI)
      · (intro z h2 h3; simp only [List.forall_mem_cons, List.not_mem_nil, false_implies, implies_true, and_true, ne_eq] at h2; simp only [List.contains_cons, List.contains_nil, Bool.or_false, Bool.or_eq_false_iff, beq_eq_false_iff_ne, ne_eq] at h3; simp [kstB, List.contains_cons, h2, h3])
      · dsimp only
        rw [hup, if_neg (by omega), hk0]
  case done =>
    rintro ⟨tx, ttx⟩ u' h tk htk hk0 F3 N3
    dsimp only at hk0 F3 N3
    have e : ((↑(Value.ref x0 :: vr).length : Int)).toNat = (c0 :: cr).length := by omega
    rw [e] at hk0
    have htl : tx.length ≤ 101 * 100 := by
      have h7 := textUp_len (c0 :: cr) width h5 h6.2 (c0 :: cr).length
      have h8 : (c0 :: cr).length = cr.length + 1 := List.length_cons
      have h9 := congrArg PySem.Str.length hk0
      omega
    have hne : Txt.replace tx " " "" ≠ "" := by rw [hk0]; exact h2
    (try k_fold)
    k_steps
    · exact absurd (eq_of_beq (by assumption)) hne
    · rename News h₀ L _ _ => N9
      refine hret _ _ _ _ (by assumption) ?_ (by k_asm) N9
      refine .tuple (.head _) (.cons (.int _ _) (.cons (.int _ _) (.cons ?_ .nil)))
      show DatIn _ _ (.str (textUp (c0 :: cr) width (c0 :: cr).length))
      rw [← hk0]
      exact .str _ _

theorem reg35 : True := by
  k_with "call ref" => (k_here; (with_reducible show wpAny _ _ (call (Value.ref 173) [_, Value.ref _, _]) _ _ _); k_dflt (refine' Mine.check_c ?B ?F ?X ?T ?hk ?N ?h1 ?h2 ?h3 ?h4 ?h5 ?h6 ?h7 ?h8 ?h9 ?ha ?hb ?d ?u ?_; (case B => k_asm); (case F => k_asm); (case X => k_asm); (case T => k_asm); (case hk => first | exact rfl | assumption); (case N => k_asm); (case d => ktr_room); (case u => ktr_units); (case h1 => assumption); (case h2 => assumption); (case h3 => assumption); (case h4 => first | exact fun _ h => h | assumption | (intro pZ hpZ; simp [hpZ])); (case h5 => k_mem); (case h6 => assumption); (case h7 => first | assumption | omega); (case h8 => assumption); (case h9 => first | assumption | omega); (case ha => first | assumption | omega); (case hb => first | assumption | omega)); intro h9Z tk9Z F9Z N9Z; (try dsimp only); (try k_sweep); (try k_fold))
  k_with "call ref" => (k_here; (with_reducible show wpAny _ _ (call (Value.ref 166) [Value.ref _, Value.int _ _]) _ _ _); k_dflt (refine' Mine.joined_c ?B ?F ?X ?T ?hk ?N ?h1 ?h2 ?h3 ?h4 ?h5 ?h6 ?h7 ?h8 ?h9 ?d ?u ?_; (case B => k_asm); (case F => k_asm); (case X => k_asm); (case T => k_asm); (case hk => first | exact rfl | assumption); (case N => k_asm); (case d => ktr_room); (case u => ktr_units); (case h1 => assumption); (case h2 => first | exact fun _ h => h | assumption | (intro pZ hpZ; simp [hpZ])); (case h3 => k_mem); (case h4 => assumption); (case h5 => assumption); (case h6 => first | assumption | omega); (case h7 => first | assumption | omega); (case h8 => assumption); (case h9 => first | assumption | omega)); intro a9Z o9Z h9Z tk9Z l1Z hD9Z F9Z N9Z; (have l1aZ := l1Z); (try k_lt l1Z); (try dsimp only); (try k_sweep); (try k_fold))
  k_with "newList" => (k_here; k_dflt (refine' newList_K ?k1 ?k2 ?_; (case k1 => k_asm); (case k2 => k_asm); k_whole); intro lZ hZ FZ NZ l1Z; (have l1aZ := l1Z); (try k_lt l1Z); (try k_sweep))
  trivial
abbrev Trip := Int × Int × Str
def stS (width : Int) (st : List Trip × List Cd) (c : Cd) : List Trip × List Cd :=
  if isCont c then (st.1, st.2 ++ [c]) else (match st.2 with | [] => st.1 | _ :: _ => st.1 ++ [joinedV width st.2], [c])
def foldS (width : Int) (cs : List Cd) : List Trip × List Cd := cs.foldl (stS width) ([], [])
def okJoin (width : Int) (rs : List Cd) : Prop := ∀ c0 cr, rs = c0 :: cr → okLabel c0.label ∧ labelIn (textUp rs width rs.length) ≠ "" ∧ cr.length ≤ 100
def okS (cont width : Int) (st : List Trip × List Cd) (c : Cd) : Prop :=
  if isCont c then (labelIn c.label = "" ∧ ∃ c0 cr, st.2 = c0 :: cr ∧ ((c0 :: cr).length : Int) ≤ cont ∧ labelIn c0.body ≠ "END") else (okLabel c.label ∧ okJoin width st.2)
def endS (width : Int) (st : List Trip × List Cd) : List Trip := match st.2 with | [] => st.1 | _ :: _ => st.1 ++ [joinedV width st.2]

theorem stS_mem {P : Cd → Prop} {width : Int} : ∀ (cs : List Cd) (st : List Trip × List Cd), (∀ c ∈ st.2, P c) → (∀ c ∈ cs, P c) → ∀ c ∈ (cs.foldl (stS width) st).2, P c
  | [], _, h, _ => h
  | d :: cs, st, h, k => by
    refine stS_mem cs (stS width st d) ?_ fun c hc => k c (.tail _ hc)
    intro c hc
    unfold stS at hc
    split at hc
    · rcases List.mem_append.mp hc with hc | hc
      · exact h c hc
      · rw [List.mem_singleton.mp hc]; exact k d (.head _)
    · rw [List.mem_singleton.mp hc]; exact k d (.head _)
theorem stS_len {width : Int} : ∀ (cs : List Cd) (st : List Trip × List Cd), (cs.foldl (stS width) st).2.length ≤ st.2.length + cs.length ∧ (cs.foldl (stS width) st).1.length ≤ st.1.length + cs.length
  | [], _ => ⟨Nat.le_refl _, Nat.le_refl _⟩
  | d :: cs, st => by
    obtain ⟨h1, h2⟩ := stS_len cs (stS width st d)
    have h3 : (stS width st d).2.length ≤ st.2.length + 1 ∧ (stS width st d).1.length ≤ st.1.length + 1 := by
      unfold stS
      split
      · exact ⟨by simp, by simp⟩
      · refine ⟨by simp, ?_⟩
        dsimp only
        split <;> simp
    have h4 : (d :: cs).length = cs.length + 1 := rfl
    exact ⟨Nat.le_trans h1 (by omega), Nat.le_trans h2 (by omega)⟩

structure SSt where
  os : List Value
  no : Nat
  lo : Addr
  rvs : List Value
  nr : Nat
  lr : Addr
  tl : List (Addr × Obj)
  outs : List Trip
  rs : List Cd

set_option maxHeartbeats 4000000 in
theorem stat_c {w : World} {mean : ExcName → Option Value} {mg mb : Str → Option Value} {dp un : Nat} {gd : Option (List Code)} {cn : Str} {cs : Scope} {a : Addr} {ccd : Value} {cl : List (Str × Addr)} {outer : List Env} {A₀ : Around} {base h₀ : Heap} {L : Addr} {m : Str → Option Value} {s : Shared} {Q E : Value → Shared → Prop} {v : Value} {lc : Addr} {cvs : List Value} {nc : Nat} {cds : List Cd} {cont cols : Int} {news : List (Addr × Obj)}
    (B : Below A₀ base outer h₀) (F : Fr h₀ L s.heap m) (X : (K0 w.params).In h₀) (T : Top V0 (looseW V0 []) mean mg mb h₀) (hk : cs.kind = .function) (N : News h₀ L s.heap news) (hlim : IsLim w news v cont cols) (hcl : (lc, listOf cvs.toArray nc) ∈ news) (hcs : CardsAre w news cvs cds) (hsz : ∀ c ∈ cds, c.label.length ≤ 1000 ∧ c.body.length ≤ 100) (hn : cds.length ≤ 1000)
    (hok : ∀ (i : Nat) c, cds[i]? = some c → okS cont (cols - 6) (foldS (cols - 6) (cds.take i)) c) (hfin : okJoin (cols - 6) (foldS (cols - 6) cds).2) (hc : 8 ≤ cols ∧ cols ≤ 60) (hcn : 0 ≤ cont ∧ cont ≤ 1000) (hd' : dp + 6 < recursionLimit) (hu : un + 60 < cLine)
    (hret : ∀ (l : Addr) (vs : List Value) nn tl h' tk', (∀ p ∈ news, p.1 < l) → (∀ q ∈ tl, ∀ p ∈ news, p.1 < q.1) → DatAll tl vs ((endS (cols - 6) (foldS (cols - 6) cds)).map tripD) → Fr h₀ L h' m → News h₀ L h' ((l, listOf vs.toArray nn) :: (tl ++ news)) → Q (.ref l) { s with heap := h', toks := tk' }) :
    wpAny (model PySem.Challenge.rw_no0235_01.row.prog w) (ktrTop dp un gd cn cs L a ccd cl outer) (call (.ref 180) [.ref lc, v]) Q E s := by
  have hlim' := hlim
  obtain ⟨xl, d, a, b, c, e, f, g, t, u, rfl, hx1, hx2⟩ := hlim'
  revert X; k_fill; intro X; w_top off
  refine wpAny_call ?_
  k_dflt (refine' code_def (binds := [(Str.ofString "cards", .ref lc), (Str.ofString "limits", .ref xl)]) ?k1 ?k2 ?k3 ?k4 ?k5 ?kA ?kF ?kK ?k6 ?k7 ?k8 ?k9 ?kB ?_ ?c2 ?c3 ?c4 ?c5; (case kA => exact rfl); (case kF => exact rfl); (case kK => assumption); (case k1 => k_asm); (case k2 => k_asm); (case k3 => k_asm); (case k4 => k_asm); (case k5 => k_asm); (case k6 => k_is); (case k7 => k_is); (case k8 => ktr_room); (case k9 => exact BindsTo.of_eq (by with_unfolding_all rfl)); (case c5 => decide); (case kB => exact locs rfl); (case c2 => exact rfl); (case c3 => exact rfl); (case c4 => exact rfl); k_whole; intro g' L' h' FG' F' N' B' X' T'; (try dsimp only); (try k_lift B'); (try k_fold))
  k_steps
  rename Fr _ _ _ _ => F1
  rename News _ _ _ _ => N1
  obtain ⟨lo1, rfl, hlo1⟩ : ∃ y, y = _ ∧ (∀ p ∈ news, p.1 < y) := ⟨_, rfl, by assumption⟩
  obtain ⟨lr1, rfl, hlr1⟩ : ∃ y, y = _ ∧ (∀ p ∈ (lo1, listOf #[] 0) :: news, p.1 < y) := ⟨_, rfl, by assumption⟩
  refine' list_M (σ := SSt) [Str.ofString "card"] (fun c => [(Str.ofString "out", .ref c.lo), (Str.ofString "rows", .ref c.lr)]) (fun c => (c.lo, listOf c.os.toArray c.no) :: (c.lr, listOf c.rvs.toArray c.nr) :: (c.tl ++ news))
    (fun i c => c.lo ≠ c.lr ∧ (∀ p ∈ c.tl ++ news, p.1 ≠ c.lo) ∧ (∀ p ∈ c.tl ++ news, p.1 ≠ c.lr) ∧ (∀ p ∈ news, p.1 < c.lo) ∧ (∀ q ∈ c.tl, ∀ p ∈ news, p.1 < q.1) ∧ DatAll c.tl c.os (c.outs.map tripD) ∧ CardsAre w news c.rvs c.rs ∧ (c.outs, c.rs) = foldS (cols - 6) (cds.take i)) (by with_unfolding_all rfl) F1 N1 (.tail _ (.tail _ hcl)) (fun c => .tail _ (.tail _ (List.mem_append_right _ hcl))) ?start ?turn ?done ?hE
  case hE => passes_own
  case start =>
    refine ⟨⟨[], 0, lo1, [], 0, lr1, [], [], []⟩, ?_, List.forall_mem_cons.mpr ⟨rfl, List.forall_mem_cons.mpr ⟨rfl, List.forall_mem_nil _⟩⟩, Nat.ne_of_lt (hlr1 _ (.head _)), fun p hp => Nat.ne_of_lt (hlo1 p hp), fun p hp => Nat.ne_of_lt (hlr1 p (.tail _ hp)), hlo1, fun _ h => (nomatch h), .nil, .nil, rfl⟩
    intro p hp
    simp only [List.mem_cons, List.nil_append] at hp ⊢
    rcases hp with h | h | h
    · exact .inr (.inl h)
    · exact .inl h
    · exact .inr (.inr h)
  case turn =>
    intro i v' cZ2 u' h tk I oI hv htk cZ10 hI F3 N3
    (try k_fold)
    obtain ⟨os, no, lo, rvs, nr, lr, tl, outs, rs⟩ := cZ2
    obtain ⟨hk0, hk1, hk2, hk3, hk4, hk5, hk6, hk7⟩ := cZ10
    dsimp only at hk0 hk1 hk2 hk3 hk4 hk5 hk6 hk7 hI F3 N3
    obtain ⟨ci, hci, hcard⟩ := hcs.item hv
    have hokc := hok i ci hci
    rw [← hk7] at hokc
    have hszc := hsz ci (List.mem_of_getElem? hci)
    have f1 := neN hk0
    have f2 := neN (show lo ≠ I from hI _ (.head _))
    have f3 := neN (show lr ≠ I from hI _ (.tail _ (.head _)))
    have hx1' : (xl, _) ∈ tl ++ news := List.mem_append_right _ hx1
    have hx2' : (d, _) ∈ tl ++ news := List.mem_append_right _ hx2
    have e1 : outs = (foldS (cols - 6) (cds.take i)).1 := congrArg Prod.fst hk7
    have e2 : rs = (foldS (cols - 6) (cds.take i)).2 := congrArg Prod.snd hk7
    have hrsz : ∀ c ∈ rs, c.label.length ≤ 1000 ∧ c.body.length ≤ 100 := by
      rw [e2]
      exact stS_mem _ _ (fun _ h => (nomatch h)) fun c hc => hsz c (List.mem_of_mem_take hc)
    obtain ⟨hln1, hln2⟩ := stS_len (width := cols - 6) (cds.take i) ([], [])
    have htk1 : (cds.take i).length ≤ 1000 := by rw [List.length_take]; omega
    have hosz : os.length ≤ 1000 := by
      have h1 := hk5.length
      rw [List.length_map, e1] at h1
      have h2 : (foldS (cols - 6) (cds.take i)).1.length ≤ 0 + (cds.take i).length := hln2
      omega
    have hrvz : rvs.length ≤ 1000 := by
      have h1 := hk6.length
      rw [e2] at h1
      have h2 : (foldS (cols - 6) (cds.take i)).2.length ≤ 0 + (cds.take i).length := hln1
      omega
    have hst : foldS (cols - 6) (cds.take (i + 1)) = stS (cols - 6) (outs, rs) ci := by
      rw [hk7]; exact foldl_take_succ _ _ hci
    unfold okS at hokc
    cases hic : isCont ci with
    | true =>
      rw [hic, if_pos rfl] at hokc
      obtain ⟨hlab, c0, cr, hrs, hle, hend⟩ := hokc
      dsimp only at hrs
      subst hrs
      have hszc0 := hrsz c0 (.head _)
      have hrl := hk6.length
      (try k_fold)
      k_steps
      rename Fr _ _ _ _ => F9
      rename News _ _ _ _ => N9
      refine EndM.intro ⟨os, no, lo, rvs ++ [v'], nr + 1, lr, tl, outs, c0 :: cr ++ [ci]⟩ F9 N9 ⟨List.forall_mem_cons.mpr ⟨rfl, List.forall_mem_cons.mpr ⟨rfl, List.forall_mem_nil _⟩⟩, ?_⟩ ⟨hk0, hk1, hk2, hk3, hk4, hk5, ?_, ?_⟩ (List.forall_mem_cons.mpr ⟨.head _, List.forall_mem_nil _⟩) (sub_skip (sub_head sub_push)) ?_
      · (intro z h2 h3; simp only [List.forall_mem_cons, List.not_mem_nil, false_implies, implies_true, and_true, ne_eq] at h2; simp only [List.contains_cons, List.contains_nil, Bool.or_false, Bool.or_eq_false_iff, beq_eq_false_iff_ne, ne_eq] at h3; simp [kstB, List.contains_cons, h2, h3])
      · exact hk6.append (.cons hcard .nil)
      · dsimp only
        rw [hst]
        unfold stS
        rw [if_pos hic]
      · intro p hp q hq
        rw [List.mem_singleton.mp hq]
        rcases List.mem_cons.mp hp with rfl | hp
        · exact f2
        · rcases List.mem_cons.mp hp with rfl | hp
          · exact f3
          · exact hI p (.tail _ (.tail _ hp))
    | false =>
      rw [hic] at hokc
      obtain ⟨hlab, hj⟩ := hokc
      cases rs with
      | nil =>
        cases hk6
        (try k_fold)
        k_steps
        rename Fr _ _ _ _ => F9
        obtain ⟨l2, rfl, hl2⟩ : ∃ y, y = _ ∧ (∀ p ∈ (I, oI) :: (lo, listOf os.toArray no) :: (lr, listOf #[] nr) :: (tl ++ news), p.1 < y) := ⟨_, rfl, by assumption⟩
        rename News _ _ _ ((l2, _) :: _) => N9
        refine EndM.intro ⟨os, no, lo, [v'], 0 + 1, l2, tl, outs, [ci]⟩ F9 N9 ⟨List.forall_mem_cons.mpr ⟨rfl, List.forall_mem_cons.mpr ⟨rfl, List.forall_mem_nil _⟩⟩, ?_⟩ ⟨Nat.ne_of_lt (hl2 _ (.tail _ (.head _))), hk1, fun p hp => Nat.ne_of_lt (hl2 p (.tail _ (.tail _ (.tail _ hp)))), hk3, hk4, hk5, .cons hcard .nil, ?_⟩ (List.forall_mem_cons.mpr ⟨.tail _ (.head _), List.forall_mem_nil _⟩) ?_ ?_
        · (intro z h2 h3; simp only [List.forall_mem_cons, List.not_mem_nil, false_implies, implies_true, and_true, ne_eq] at h2; simp only [List.contains_cons, List.contains_nil, Bool.or_false, Bool.or_eq_false_iff, beq_eq_false_iff_ne, ne_eq] at h3; simp [kstB, List.contains_cons, h2, h3])
        · dsimp only
          rw [hst]
          unfold stS
          rw [if_neg (by rw [hic]; decide)]
        · intro p hp
          rcases List.mem_cons.mp hp with rfl | hp
          · exact .tail _ (.tail _ (.head _))
          · rcases List.mem_cons.mp hp with rfl | hp
            · exact .head _
            · exact .tail _ (.tail _ (.tail _ (.tail _ hp)))
        · intro p hp q hq
          rw [List.mem_singleton.mp hq]
          rcases List.mem_cons.mp hp with rfl | hp
          · exact f2
          · rcases List.mem_cons.mp hp with rfl | hp
            · exact Nat.ne_of_gt (hl2 _ (.head _))
            · exact hI p (.tail _ (.tail _ hp))
      | cons c0 cr =>
        have hszc0 := hrsz c0 (.head _)
        have hrl := hk6.length
        obtain ⟨hj1, hj2, hj3⟩ := hj c0 cr rfl
        have hbz : ∀ c ∈ c0 :: cr, c.body.length ≤ 100 := fun c hc => (hrsz c hc).2
        have hrl' : rvs.length = cr.length + 1 := hrl
        (try k_fold)
        k_steps
        rename Fr _ _ _ _ => F9
        rename DatIn _ _ _ => hD9
        obtain ⟨a9, o9, rfl, rfl, hD8⟩ : ∃ a9 o9, a9 = _ ∧ o9 = _ ∧ DatIn [(a9, o9)] (.ref a9) (tripD (joinedV (cols - 6) (c0 :: cr))) := ⟨_, _, rfl, rfl, hD9⟩
        have ha9 : ∀ p ∈ (I, oI) :: (lo, listOf os.toArray no) :: (lr, listOf rvs.toArray nr) :: (tl ++ news), p.1 < a9 := by assumption
        obtain ⟨l2, rfl, hl2⟩ : ∃ y, y = _ ∧ (∀ p ∈ (a9, o9) :: (I, oI) :: (lo, listOf (os.toArray.push (.ref a9)) (no + 1)) :: (lr, listOf rvs.toArray nr) :: (tl ++ news), p.1 < y) := ⟨_, rfl, by assumption⟩
        rename News _ _ _ ((l2, _) :: _) => N9
        refine EndM.intro ⟨os ++ [.ref a9], no + 1, lo, [v'], 0 + 1, l2, (a9, o9) :: tl, outs ++ [joinedV (cols - 6) (c0 :: cr)], [ci]⟩ F9 N9 ⟨List.forall_mem_cons.mpr ⟨rfl, List.forall_mem_cons.mpr ⟨rfl, List.forall_mem_nil _⟩⟩, ?_⟩ ⟨Nat.ne_of_lt (hl2 _ (.tail _ (.tail _ (.head _)))), ?_, ?_, hk3, ?_, ?_, .cons hcard .nil, ?_⟩ (List.forall_mem_cons.mpr ⟨.tail _ (.tail _ (.head _)), List.forall_mem_nil _⟩) ?_ ?_
        · (intro z h2 h3; simp only [List.forall_mem_cons, List.not_mem_nil, false_implies, implies_true, and_true, ne_eq] at h2; simp only [List.contains_cons, List.contains_nil, Bool.or_false, Bool.or_eq_false_iff, beq_eq_false_iff_ne, ne_eq] at h3; simp [kstB, List.contains_cons, h2, h3])
        · intro p hp
          rcases List.mem_cons.mp hp with rfl | hp
          · exact Nat.ne_of_gt (ha9 _ (.tail _ (.head _)))
          · exact hk1 p hp
        · intro p hp
          rcases List.mem_cons.mp hp with rfl | hp
          · exact Nat.ne_of_lt (hl2 _ (.head _))
          · exact Nat.ne_of_lt (hl2 p (.tail _ (.tail _ (.tail _ (.tail _ hp)))))
        · intro q hq p hp
          rcases List.mem_cons.mp hq with rfl | hq
          · exact ha9 p (.tail _ (.tail _ (.tail _ (List.mem_append_right _ hp))))
          · exact hk4 q hq p hp
        · dsimp only
          rw [List.map_append]
          exact (hk5.mono fun p hp => .tail _ hp).append (.one (hD8.mono fun p hp => (List.mem_singleton.mp hp) ▸ .head _))
        · dsimp only
          rw [hst]
          unfold stS
          rw [if_neg (by rw [hic]; decide)]
        · intro p hp
          rw [List.push_toArray os]
          rcases List.mem_cons.mp hp with rfl | hp
          · exact .tail _ (.tail _ (.tail _ (.head _)))
          · rcases List.mem_cons.mp hp with rfl | hp
            · exact .head _
            · rcases List.mem_cons.mp hp with rfl | hp
              · exact .tail _ (.head _)
              · exact .tail _ (.tail _ (.tail _ (.tail _ (.tail _ hp))))
        · intro p hp q hq
          rw [List.mem_singleton.mp hq]
          rcases List.mem_cons.mp hp with rfl | hp
          · exact f2
          · rcases List.mem_cons.mp hp with rfl | hp
            · exact Nat.ne_of_gt (hl2 _ (.tail _ (.head _)))
            · rcases List.mem_cons.mp hp with rfl | hp
              · exact Nat.ne_of_gt (ha9 _ (.head _))
              · exact hI p (.tail _ (.tail _ hp))
  case done =>
    rintro ⟨os, no, lo, rvs, nr, lr, tl, outs, rs⟩ u' h tk htk ⟨hk0, hk1, hk2, hk3, hk4, hk5, hk6, hk7⟩ F3 N3
    dsimp only at hk0 hk1 hk2 hk3 hk4 hk5 hk6 hk7 F3 N3
    have hcl2 : cvs.length = cds.length := hcs.length
    rw [hcl2, List.take_length] at hk7
    have e1 : outs = (foldS (cols - 6) cds).1 := congrArg Prod.fst hk7
    have e2 : rs = (foldS (cols - 6) cds).2 := congrArg Prod.snd hk7
    rw [← hk7] at hfin
    have hrsz : ∀ c ∈ rs, c.label.length ≤ 1000 ∧ c.body.length ≤ 100 := by
      rw [e2]
      exact stS_mem _ _ (fun _ h => (nomatch h)) fun c hc => hsz c hc
    obtain ⟨hln1, hln2⟩ := stS_len (width := cols - 6) cds ([], [])
    have hosz : os.length ≤ 1000 := by
      have h1 := hk5.length
      rw [List.length_map, e1] at h1
      have h2 : (foldS (cols - 6) cds).1.length ≤ 0 + cds.length := hln2
      omega
    have hrvz : rvs.length ≤ 1000 := by
      have h1 := hk6.length
      rw [e2] at h1
      have h2 : (foldS (cols - 6) cds).2.length ≤ 0 + cds.length := hln1
      omega
    have f1 := neN hk0
    rw [← hk7] at hret
    cases rs with
    | nil =>
      cases hk6
      (try k_fold)
      k_steps
      refine hret lo os no tl _ _ hk3 hk4 hk5 (by k_asm) (newsSub (by k_asm) (sub_head (sub_skip sub_refl)))
    | cons c0 cr =>
      have hszc0 := hrsz c0 (.head _)
      have hrl := hk6.length
      have hrl' : rvs.length = cr.length + 1 := hrl
      obtain ⟨hj1, hj2, hj3⟩ := hfin c0 cr rfl
      have hbz : ∀ c ∈ c0 :: cr, c.body.length ≤ 100 := fun c hc => (hrsz c hc).2
      (try k_fold)
      k_steps
      rename DatIn _ _ _ => hD9
      obtain ⟨a9, o9, rfl, rfl, hD8⟩ : ∃ a9 o9, a9 = _ ∧ o9 = _ ∧ DatIn [(a9, o9)] (.ref a9) (tripD (joinedV (cols - 6) (c0 :: cr))) := ⟨_, _, rfl, rfl, hD9⟩
      have ha9 : ∀ p ∈ (lo, listOf os.toArray no) :: (lr, listOf rvs.toArray nr) :: (tl ++ news), p.1 < a9 := by assumption
      rename News h₀ L _ _ => N9
      refine hret lo (os ++ [.ref a9]) (no + 1) ((a9, o9) :: tl) _ _ hk3 ?_ ?_ (by k_asm) (newsSub N9 ?_)
      · intro q hq p hp
        rcases List.mem_cons.mp hq with rfl | hq
        · exact ha9 p (.tail _ (.tail _ (List.mem_append_right _ hp)))
        · exact hk4 q hq p hp
      · show DatAll _ _ (List.map tripD (outs ++ [joinedV (cols - 6) (c0 :: cr)]))
        rw [List.map_append]
        exact (hk5.mono fun p hp => .tail _ hp).append (.one (hD8.mono fun p hp => (List.mem_singleton.mp hp) ▸ .head _))
      · intro p hp
        rw [List.push_toArray]
        rcases List.mem_cons.mp hp with rfl | hp
        · exact .tail _ (.head _)
        · rcases List.mem_cons.mp hp with rfl | hp
          · exact .head _
          · exact .tail _ (.tail _ (.tail _ hp))

theorem reg37 : True := by
  k_with "call ref" => (k_here; (with_reducible show wpAny _ _ (call (Value.ref 138) [Value.str _ _, _]) _ _ _); k_dflt (refine' Mine.read_c ?B ?F ?X ?T ?hk ?N ?h1 ?h2 ?h3 ?h4 ?h5 ?h6 ?d ?u ?_; (case B => k_asm); (case F => k_asm); (case X => k_asm); (case T => k_asm); (case hk => first | exact rfl | assumption); (case N => k_asm); (case d => ktr_room); (case u => ktr_units); (case h1 => assumption); (case h2 => first | assumption | omega); (case h3 => assumption); (case h4 => first | assumption | omega); (case h5 => assumption); (case h6 => first | assumption | omega)); intro l9Z vs9Z nn9Z tl9Z h9Z tk9Z l1Z l2Z hC9Z F9Z N9Z; (try dsimp only); (try k_sweep); (try k_fold))
  k_with "call ref" => (k_here; (with_reducible show wpAny _ _ (call (Value.ref 180) _) _ _ _); refine Mine.stop_T ?_)
  trivial
set_option maxHeartbeats 4000000 in
theorem rs_c {w : World} {mean : ExcName → Option Value} {mg mb : Str → Option Value} {dp un : Nat} {gd : Option (List Code)} {cn : Str} {cs : Scope} {a : Addr} {ccd : Value} {cl : List (Str × Addr)} {outer : List Env} {A₀ : Around} {base h₀ : Heap} {L : Addr} {m : Str → Option Value} {s : Shared} {Q E : Value → Shared → Prop} {x : Str} {tx : Tok} {rs : List Str} {z : Str} {v : Value} {cds : List Cd} {cont cols : Int} {news nl : List (Addr × Obj)}
    (B : Below A₀ base outer h₀) (F : Fr h₀ L s.heap m) (X : (K0 w.params).In h₀) (T : Top V0 (looseW V0 []) mean mg mb h₀) (hk : cs.kind = .function) (N : News h₀ L s.heap news) (hlim : IsLim w nl v cont cols) (hsl : ∀ p ∈ nl, p ∈ news) (hx : x.length ≤ 100000) (hs : Txt.split x "\n" = rs ++ [z]) (hrl : rs.length ≤ 100000) (hrx : ∀ r ∈ rowsIn rs z, r.length ≤ 1000) (hcd : readCards cols (numFrom 0 (rowsIn rs z)) = cds)
    (hsz : ∀ c ∈ cds, c.label.length ≤ 1000 ∧ c.body.length ≤ 100) (hn : cds.length ≤ 1000)
    (hok : ∀ (i : Nat) c, cds[i]? = some c → okS cont (cols - 6) (foldS (cols - 6) (cds.take i)) c) (hfin : okJoin (cols - 6) (foldS (cols - 6) cds).2) (hc : 8 ≤ cols ∧ cols ≤ 60) (hcn : 0 ≤ cont ∧ cont ≤ 1000) (hd' : dp + 7 < recursionLimit) (hu : un + 70 < cLine)
    (hret : ∀ (l : Addr) (vs : List Value) nn tl h' tk', (∀ q ∈ (l, listOf vs.toArray nn) :: tl, ∀ p ∈ news, p.1 < q.1) → DatAll tl vs ((endS (cols - 6) (foldS (cols - 6) cds)).map tripD) → Fr h₀ L h' m → News h₀ L h' ((l, listOf vs.toArray nn) :: (tl ++ news)) → Q (.ref l) { s with heap := h', toks := tk' }) :
    wpAny (model PySem.Challenge.rw_no0235_01.row.prog w) (ktrTop dp un gd cn cs L a ccd cl outer) (call (.ref 187) [.str x tx, v]) Q E s := by
  replace hlim := hlim.mono hsl
  revert X; k_fill; intro X; w_top off
  refine wpAny_call ?_
  k_dflt (refine' code_def (binds := [(Str.ofString "text", .str x tx), (Str.ofString "limits", v)]) ?k1 ?k2 ?k3 ?k4 ?k5 ?kA ?kF ?kK ?k6 ?k7 ?k8 ?k9 ?kB ?_ ?c2 ?c3 ?c4 ?c5; (case kA => exact rfl); (case kF => exact rfl); (case kK => assumption); (case k1 => k_asm); (case k2 => k_asm); (case k3 => k_asm); (case k4 => k_asm); (case k5 => k_asm); (case k6 => k_is); (case k7 => k_is); (case k8 => ktr_room); (case k9 => exact BindsTo.of_eq (by with_unfolding_all rfl)); (case c5 => decide); (case kB => exact locs rfl); (case c2 => exact rfl); (case c3 => exact rfl); (case c4 => exact rfl); k_whole; intro g' L' h' FG' F' N' B' X' T'; (try dsimp only); (try k_lift B'); (try k_fold))
  k_steps
  unfold Stop
  rename CardsAre _ _ _ _ => hC9
  rw [hcd] at hC9
  obtain ⟨l8, tl8, vs8, nn8, rfl, rfl, rfl, N8⟩ : ∃ l8 tl8 vs8 nn8, l8 = _ ∧ tl8 = _ ∧ vs8 = _ ∧ News _ _ _ ((l8, listOf (List.toArray vs8) nn8) :: (tl8 ++ news)) := ⟨_, _, _, _, rfl, rfl, rfl, by assumption⟩
  have hb1 : ∀ p ∈ news, p.1 < l8 := by assumption
  have hb2 : ∀ q ∈ tl8, ∀ p ∈ news, p.1 < q.1 := by assumption
  rename Fr _ _ _ _ => F8
  k_dflt (refine' Mine.stat_c (news := (l8, listOf vs8.toArray nn8) :: (tl8 ++ news)) ?B ?F ?X ?T ?hk ?N ?h1 ?h2 ?h3 ?h4 ?h5 ?h6 ?h7 ?h8 ?h9 ?d ?u ?_; (case B => k_asm); (case F => k_asm); (case X => k_asm); (case T => k_asm); (case hk => first | exact rfl | assumption); (case N => k_asm); (case d => ktr_room); (case u => ktr_units); (case h1 => exact hlim.mono fun p hp => .tail _ (List.mem_append_right _ hp)); (case h2 => exact .head _); (case h3 => exact hC9.mono fun p hp => .tail _ (List.mem_append_left _ hp)); (case h4 => exact hsz); (case h5 => exact hn); (case h6 => exact hok); (case h7 => exact hfin); (case h8 => exact hc); (case h9 => exact hcn))
  intro l9 vs9 nn9 tl9 h9 tk9 hb3 hb4 hD9 F9 N9
  (try dsimp only)
  k_steps
  refine hret l9 vs9 nn9 tl9 _ _ ?_ hD9 (by k_asm) (newsSub (by k_asm) (sub_head fun p hp => ?_))
  · intro q hq p hp
    rcases List.mem_cons.mp hq with rfl | hq
    · exact hb3 p (.tail _ (List.mem_append_right _ hp))
    · exact hb4 q hq p (.tail _ (List.mem_append_right _ hp))
  · exact (List.mem_append.mp hp).elim (fun h => List.mem_append_left _ h) fun h => List.mem_append_right _ (.tail _ (List.mem_append_right _ h))

def remarks : List Str := ["C  A = 1", "*", "", "        ", "c     +X", "* 10 X=1"]

theorem reg39 : True := by
  k_with "call ref" => (k_here; (with_reducible show wpAny _ _ (call (Value.ref 201) [Value.ref _, Value.int _ _]) _ _ _); k_dflt (refine' Mine.take_u ?B ?F ?X ?T ?hk ?N ?U ?hl ?hne ?hi ?hlen ?h0 ?hat ?hn0 ?hn ?d ?u ?_; (case B => k_asm); (case F => k_asm); (case X => k_asm); (case T => k_asm); (case hk => first | exact rfl | assumption); (case N => k_asm); (case d => ktr_room); (case u => ktr_units); (case U => k_updF); (case hl => k_mem); (case hne => first | assumption | k_ne | omega); (case hi => assumption); (case hlen => first | assumption | exact Nat.le_trans (List.length_take_le _ _) (by decide)); (case h0 => omega); (case hat => omega); (case hn0 => omega); (case hn => omega)); intro v9Z t9Z t8Z h9Z tk9Z hv0Z hv1Z F9Z N9Z; (try dsimp only at N9Z); (try dsimp only); (try k_sweep); (try k_fold))
  trivial
/-- a sign that the law may write -/
def okSign (c : Nat) : Prop := c ≠ 10 ∧ c < 128
structure TSt where
  x : Str
  t : Tok
  seed : Int
  u : Tok
theorem sign_item {k : Int} (h0 : 0 ≤ k) (h1 : k < 14) : ∃ c, Txt.item "ABX 1'(),=* .Y" k = ⟨#[c]⟩ ∧ okSign c := by
  obtain ⟨n, rfl⟩ : ∃ n : Nat, k = n := ⟨k.toNat, by omega⟩
  have hn : n < 14 := by omega
  match n, hn with
  | 0, _ | 1, _ | 2, _ | 3, _ | 4, _ | 5, _ | 6, _ | 7, _ | 8, _ | 9, _ | 10, _ | 11, _ | 12, _ | 13, _ => exact ⟨_, rfl, by unfold okSign; decide⟩
theorem str_app (a b : List Nat) : (⟨a.toArray⟩ ++ ⟨b.toArray⟩ : Str) = ⟨(a ++ b).toArray⟩ := by
  show Str.mk _ = _
  simp

set_option maxHeartbeats 4000000 in
theorem text_h {w : World} {mean : ExcName → Option Value} {mg mb : Str → Option Value} {dp un : Nat} {gd : Option (List Code)} {cn : Str} {cs : Scope} {a : Addr} {ccd : Value} {cl : List (Str × Addr)} {outer : List Env} {A₀ : Around} {base h₀ : Heap} {L : Addr} {m : Str → Option Value} {s : Shared} {Q E : Value → Shared → Prop} {tp tl : Addr} {vs : List Value} {ns : List Int} {k k2 : Nat} {at_ : Int} {t0 : Tok} {rest : List (Addr × Obj)}
    (B : Below A₀ base outer h₀) (F : Fr h₀ L s.heap m) (X : (K0 w.params).In h₀) (T : Top V0 (looseW V0 []) mean mg mb h₀) (hk : cs.kind = .function) (N : News h₀ L s.heap ((tp, listOf #[.ref tl, .int at_ t0] k) :: rest)) (hoff : ∀ p ∈ rest, p.1 ≠ tp)
    (hl : (tl, listOf vs.toArray k2) ∈ rest) (hne : tl ≠ tp) (hi : IntsAre vs ns) (hlen : ns.length ≤ 63) (h0 : 0 ≤ at_) (hat : at_ ≤ 90000) (hd' : dp + 3 < recursionLimit) (hu : un + 24 < cLine)
    (hret : ∀ x t t1 h' tk', (∃ mid : List Nat, x = ⟨(88 :: mid ++ [90]).toArray⟩ ∧ mid.length ≤ 158 ∧ ∀ c ∈ mid, okSign c) → Fr h₀ L h' m → News h₀ L h' ((tp, listOf #[.ref tl, .int (at_ + 1 + 1) t1] k) :: rest) → Q (.str x t) { s with heap := h', toks := tk' }) :
    wpAny (model PySem.Challenge.rw_no0235_01.row.prog w) (ktrTop dp un gd cn cs L a ccd cl outer) (call (.ref 208) [.ref tp]) Q E s := by
  revert X; k_fill; intro X; w_top off
  refine wpAny_call ?_
  k_dflt (refine' code_def (binds := [(Str.ofString "tape", .ref tp)]) ?k1 ?k2 ?k3 ?k4 ?k5 ?kA ?kF ?kK ?k6 ?k7 ?k8 ?k9 ?kB ?_ ?c2 ?c3 ?c4 ?c5; (case kA => exact rfl); (case kF => exact rfl); (case kK => assumption); (case k1 => k_asm); (case k2 => k_asm); (case k3 => k_asm); (case k4 => k_asm); (case k5 => k_asm); (case k6 => k_is); (case k7 => k_is); (case k8 => ktr_room); (case k9 => exact BindsTo.of_eq (by with_unfolding_all rfl)); (case c5 => decide); (case kB => exact locs rfl); (case c2 => exact rfl); (case c3 => exact rfl); (case c4 => exact rfl); k_whole; intro g' L' h' FG' F' N' B' X' T'; (try dsimp only); (try k_lift B'); (try k_fold))
  k_steps
  rename Fr _ _ _ _ => F1
  rename News _ _ _ _ => N1
  rename IsRange _ _ _ _ _ _ _ _ => hR
  obtain ⟨len, rfl, hln1, hln0⟩ : ∃ y : Int, y = _ ∧ y < 159 ∧ 0 ≤ y := ⟨_, rfl, by assumption, by assumption⟩
  obtain ⟨sd, rfl, hsd1, hsd0⟩ : ∃ y : Int, y = _ ∧ y < 9973 ∧ 0 ≤ y := ⟨_, rfl, by assumption, by assumption⟩
  obtain ⟨t1, N2⟩ : ∃ t1, News _ _ _ ((tp, listOf #[.ref tl, .int (at_ + 1 + 1) t1] k) :: rest) := ⟨_, N1⟩
  refine' range0_M (σ := TSt) [Str.ofString "turn"] (fun c => [(Str.ofString "text", .str c.x c.t), (Str.ofString "seed", .int c.seed c.u)]) (fun _ => (tp, listOf #[.ref tl, .int (at_ + 1 + 1) t1] k) :: rest)
    (fun i q => 0 ≤ q.seed ∧ q.seed < 9973 ∧ ∃ mid : List Nat, q.x = ⟨(88 :: mid).toArray⟩ ∧ mid.length = i ∧ ∀ c ∈ mid, okSign c) (by with_unfolding_all rfl) hR (by omega) (by omega) F1 N2 ?start ?turn ?done ?hE
  case hE => passes_own
  case start => exact ⟨⟨"X", _, sd, _⟩, fun p hp => hp, List.forall_mem_cons.mpr ⟨rfl, List.forall_mem_cons.mpr ⟨rfl, List.forall_mem_nil _⟩⟩, hsd0, hsd1, [], (show ("X" : Str) = ⟨#[88]⟩ by decide +kernel), rfl, fun _ h => (nomatch h)⟩
  case turn =>
    intro i t' cZ2 u' h tk I oI hi' htk cZ10 hI F3 N3
    (try k_fold)
    obtain ⟨x, tx, seed, us⟩ := cZ2
    obtain ⟨hs0, hs1, mid, hm1, hm2, hm3⟩ := cZ10
    dsimp only at hs0 hs1 hm1 F3 N3
    have hxl : x.length ≤ 200 := by
      have h1 := congrArg PySem.Str.length hm1
      have h2 : PySem.Str.length ⟨(88 :: mid).toArray⟩ = mid.length + 1 := by simp [PySem.Str.length]
      omega
    (try k_fold)
    k_steps
    rename Fr _ _ _ _ => F9
    rename News _ _ _ _ => N9
    have e1 : (seed * 131 + 17).fmod 9973 = (seed * 131 + 17) % 9973 := Int.fmod_eq_emod_of_nonneg _ (by omega)
    have b0 : 0 ≤ (seed * 131 + 17).fmod 9973 := by rw [e1]; omega
    have b1 : (seed * 131 + 17).fmod 9973 < 9973 := by rw [e1]; omega
    have e2 : ((seed * 131 + 17).fmod 9973).fmod 14 = ((seed * 131 + 17).fmod 9973) % 14 := Int.fmod_eq_emod_of_nonneg _ (by omega)
    obtain ⟨c, hc1, hc2⟩ := sign_item (k := ((seed * 131 + 17).fmod 9973).fmod 14) (by rw [e2]; omega) (by rw [e2]; omega)
    refine EndM.intro ⟨_, _, _, _⟩ F9 N9 ⟨List.forall_mem_cons.mpr ⟨rfl, List.forall_mem_cons.mpr ⟨rfl, List.forall_mem_nil _⟩⟩, ?_⟩ ⟨b0, b1, mid ++ [c], ?_, ?_, ?_⟩ (List.forall_mem_cons.mpr ⟨.head _, List.forall_mem_nil _⟩) (fun p hp => .tail _ hp) (off_same hI)
    · (intro z h2 h3; simp only [List.forall_mem_cons, List.not_mem_nil, false_implies, implies_true, and_true, ne_eq] at h2; simp only [List.contains_cons, List.contains_nil, Bool.or_false, Bool.or_eq_false_iff, beq_eq_false_iff_ne, ne_eq] at h3; simp [kstB, List.contains_cons, h2, h3])
    · dsimp only
      rw [hc1, hm1]
      exact str_app _ _
    · rw [List.length_append, hm2]; rfl
    · intro y hy
      rcases List.mem_append.mp hy with hy | hy
      · exact hm3 y hy
      · rw [List.mem_singleton.mp hy]; exact hc2
  case done =>
    rintro ⟨x, tx, seed, us⟩ u' h tk htk ⟨hs0, hs1, mid, hm1, hm2, hm3⟩ F3 N3
    dsimp only at hs0 hs1 hm1 F3 N3
    have hxl : x.length ≤ 200 := by
      have h1 := congrArg PySem.Str.length hm1
      have h2 : PySem.Str.length ⟨(88 :: mid).toArray⟩ = mid.length + 1 := by simp [PySem.Str.length]
      omega
    (try k_fold)
    k_steps
    refine hret _ _ t1 _ _ ⟨mid, ?_, by omega, hm3⟩ (by k_asm) (by k_asm)
    rw [hm1, show ("Z" : Str) = ⟨#[90]⟩ by decide +kernel]
    exact str_app _ _

def IsText (x : Str) : Prop := ∃ mid : List Nat, x = ⟨(88 :: mid ++ [90]).toArray⟩ ∧ mid.length ≤ 158 ∧ ∀ c ∈ mid, okSign c
theorem IsText.length {x : Str} (h : IsText x) : 2 ≤ x.length ∧ x.length ≤ 160 := by
  obtain ⟨mid, rfl, h1, _⟩ := h
  have : PySem.Str.length ⟨(88 :: mid ++ [90]).toArray⟩ = mid.length + 2 := by simp [PySem.Str.length]
  omega
theorem text_u {w : World} {mean : ExcName → Option Value} {mg mb : Str → Option Value} {dp un : Nat} {gd : Option (List Code)} {cn : Str} {cs : Scope} {a : Addr} {ccd : Value} {cl : List (Str × Addr)} {outer : List Env} {A₀ : Around} {base h₀ : Heap} {L : Addr} {m : Str → Option Value} {s : Shared} {Q E : Value → Shared → Prop}
    {tp tl : Addr} {vs : List Value} {ns : List Int} {k k2 : Nat} {at_ : Int} {t0 : Tok} {news : List (Addr × Obj)} {g : Obj → List (Addr × Obj)}
    (B : Below A₀ base outer h₀) (F : Fr h₀ L s.heap m) (X : (K0 w.params).In h₀) (T : Top V0 (looseW V0 []) mean mg mb h₀) (hk : cs.kind = .function) (N : News h₀ L s.heap news) (U : UpdF tp (listOf #[.ref tl, .int at_ t0] k) news g)
    (hl : (tl, listOf vs.toArray k2) ∈ news) (hne : tl ≠ tp) (hi : IntsAre vs ns) (hlen : ns.length ≤ 63) (h0 : 0 ≤ at_) (hat : at_ ≤ 90000) (hd' : dp + 3 < recursionLimit) (hu : un + 24 < cLine)
    (hret : ∀ x t t1 h' tk', IsText x → 2 ≤ x.length ∧ x.length ≤ 160 → Fr h₀ L h' m → News h₀ L h' (g (listOf #[.ref tl, .int (at_ + 1 + 1) t1] k)) → Q (.str x t) { s with heap := h', toks := tk' }) :
    wpAny (model PySem.Challenge.rw_no0235_01.row.prog w) (ktrTop dp un gd cn cs L a ccd cl outer) (call (.ref 208) [.ref tp]) Q E s := by
  obtain ⟨pre, post, rfl, hg, h1, h2⟩ := U.split
  refine text_h (rest := pre ++ post) (tl := tl) (t0 := t0) (k := k) (vs := vs) (ns := ns) (k2 := k2) B F X T hk (fun p hp => N p ?_) ?_ ?_ hne hi hlen h0 hat hd' hu ?_
  · rcases List.mem_cons.mp hp with rfl | hp
    · exact List.mem_append.mpr (.inr (.head _))
    · rcases List.mem_append.mp hp with hp | hp
      · exact List.mem_append.mpr (.inl hp)
      · exact List.mem_append.mpr (.inr (.tail _ hp))
  · intro p hp
    exact (List.mem_append.mp hp).elim (h1 p) (h2 p)
  · rcases List.mem_append.mp hl with hp | hp
    · exact List.mem_append.mpr (.inl hp)
    · rcases List.mem_cons.mp hp with e | hp
      · exact absurd (congrArg Prod.fst e) hne
      · exact List.mem_append.mpr (.inr hp)
  · intro x t t1 h' tk' hx F' N'
    refine hret x t t1 h' tk' hx (IsText.length hx) F' ?_
    rw [hg]
    intro p hp
    refine N' p ?_
    rcases List.mem_append.mp hp with hp | hp
    · exact .tail _ (List.mem_append.mpr (.inl hp))
    · rcases List.mem_cons.mp hp with rfl | hp
      · exact .head _
      · exact .tail _ (List.mem_append.mpr (.inr hp))

theorem reg41 : True := by
  k_with "call ref" => (k_here; (with_reducible show wpAny _ _ (call (Value.ref 208) [Value.ref _]) _ _ _); k_dflt (refine' Mine.text_u ?B ?F ?X ?T ?hk ?N ?U ?hl ?hne ?hi ?hlen ?h0 ?hat ?d ?u ?_; (case B => k_asm); (case F => k_asm); (case X => k_asm); (case T => k_asm); (case hk => first | exact rfl | assumption); (case N => k_asm); (case d => ktr_room); (case u => ktr_units); (case U => k_updF); (case hl => k_mem); (case hne => first | assumption | k_ne | omega); (case hi => assumption); (case hlen => first | assumption | exact Nat.le_trans (List.length_take_le _ _) (by decide)); (case h0 => omega); (case hat => omega)); intro x9Z t9Z t8Z h9Z tk9Z hT9Z hL9Z F9Z N9Z; (try dsimp only at N9Z); (try dsimp only); (try k_sweep); (try k_fold))
  k_with "call ref" => (k_here; (with_reducible show wpAny _ _ (call (Value.ref 85) [Value.int _ _, Value.int _ _, Value.int _ _, Value.int _ _, Value.int _ _, Value.int _ _, Value.int _ _, Value.int _ _]) _ _ _); k_dflt (refine' Mine.lim_c ?B ?F ?X ?T ?hk ?N ?d ?u ?_; (case B => k_asm); (case F => k_asm); (case X => k_asm); (case T => k_asm); (case hk => first | exact rfl | assumption); (case N => k_asm); (case d => ktr_room); (case u => ktr_units)); intro x9Z d9Z t9Z u9Z h9Z tk9Z l1Z l2Z F9Z N9Z; (have l1aZ := l1Z); (have l2aZ := l2Z); (try k_lt l1Z); (try k_lt2 l2Z); (try dsimp only); (try k_sweep); (try k_fold))
  trivial
/-- the object of an exception that was just made -/
abbrev excObj (C t : Addr) (d : Option Addr) : Obj := { cls := .ref C, dict := d, data := .fields #[.ref t, .none, .none, .none, .bool false, .none] }
abbrev tupObj (vs : List Value) : Obj := { cls := .type "tuple", data := .seq vs.toArray }
abbrev clsS : Obj := excClassObj "SourceError" "SourceError" 51 50 [.ref 31] [.ref 31, .type "Exception", .type "BaseException", .type "object"] true [] [] false none none (some (.ref 35)) none (some (.str "SourceError" 218)) (some (.str "SourceError" 226)) (some (.bool true)) "Exception.__new__"
theorem clsS_in (p : Params) : (K0 p).lookup 51 = some clsS := by kernel_rfl

section
variable {prog : Program} {w : World} {A : Around} {R : Result → Shared → Prop} {E : Value → Shared → Prop} {h : Heap} {g : Array GenState} {d : Drawn} {t : Nat} {os : OsState}
theorem exc_check_new {M : Model} {rest : List Value} {Q : Unit → Shared → Prop} (hC : h.get? 51 = some clsS) (hq : Q () ⟨h, g, d, t, os⟩) :
    wpAny M A (checkBuiltinCall "Exception.__new__" ⟨.ref 51 :: rest, []⟩) Q E ⟨h, g, d, t, os⟩ := by
  have F := PySem.F.excBase_Exception
  have hcont : ([.ref 51, .ref 31, .type "Exception", .type "BaseException", .type "object"] : List Value).contains (.type "Exception") = true := by decide +kernel
  have hstar := F.noStar
  simp only [checkBuiltinCall, F.newKind, F.newSplit, F.newRow]
  repeat (first | with_reducible refine wpAny_loadPart_at hC ?_ | (refine wpAny_isSubtype_exc hC ?_; rw [hcont]) | refine wpAny_staticBase_exc hC ?_ | refine wpAny_madeBy_exc hC ?_ | simp only [bne_self_eq_false, Bool.false_eq_true, if_false] | wp_step)
  exact hq
theorem exc_new {rest : List Value} (hC : h.get? 51 = some clsS)
    (hq : R (.ok (.ret (.ref (h.objs.size + 1)))) ⟨(h.push (tupObj rest)).push (excObj 51 h.objs.size none), g, d, t, os⟩) (hrest : rest.length ≤ sizeLine) :
    codeAny (model prog w) A (.builtin "Exception.__new__" ⟨.ref 51 :: rest, []⟩) R ⟨h, g, d, t, os⟩ := by
  have F := PySem.F.excBase_Exception
  have hends := F.ends
  have hcB : ([.ref 51, .ref 31, .type "Exception", .type "BaseException", .type "object"] : List Value).contains (.type "Exception") = true := by decide +kernel
  have hcA : ([.ref 51, .ref 31, .type "Exception", .type "BaseException", .type "object"] : List Value).contains (.type "AttributeError") = false := by decide +kernel
  have hcN : ([.ref 51, .ref 31, .type "Exception", .type "BaseException", .type "object"] : List Value).contains (.type "NameError") = false := by decide +kernel
  refine codeAny_builtinAt F.entry ?_
  unfold Builtin.«BaseException.__new__»
  refine PySem.wpAt_bind ?_
  show PySem.wpAt _ _ _ (stack >>= _) _ _ _
  refine PySem.wpAt_bind (PySem.wpAt_stack fun p below => PySem.wpAt_of_wpAny ?_)
  wp_walk
  refine PySem.wpAt_of_wpAny ?_
  rw [F.owner]
  repeat (first | with_reducible refine wpAny_madeHere_exc F.canon hC ?_ | with_reducible refine wpAny_loadPart_at hC ?_ | (with_reducible refine wpAny_isSubtype_exc hC ?_; first | rw [hcB] | rw [hcA] | rw [hcN]) | wp_step)
  show R _ _
  rw [Heap.size_push]
  exact hq
end

section
variable {prog : Program} {w : World} {A : Around} {R : Result → Shared → Prop} {h : Heap} {g : Array GenState} {d : Drawn} {t : Nat} {os : OsState}
theorem exc_core {rest : List Value} (hC : h.get? 51 = some clsS) (hrest : rest.length ≤ sizeLine)
    (typ : Looks (model prog w) h (isInstance (.ref 51) (.type "type")) true) (self : Looks (model prog w) h (isSubtype (.ref 51) (.ref 51)) true) (hcall : Looks (model prog w) h (specialOf (.ref 51) "__call__") (some (.builtin "type.__call__")))
    (hi : Looks (model prog w) h (typeLookup (.ref 51) "__init__") (some (.ref 48))) (hb : ∀ self, Looks (model prog w) h (bindSpecial (.ref 48) self) (.ref 48, [self]))
    (hq : codeAny (model prog w) (A.under (.builtin "type.__call__" ⟨.ref 51 :: rest, []⟩)) (.call (.ref 48) ⟨.ref (h.objs.size + 1) :: rest, []⟩) (InitBack (h.objs.size + 1) R) ⟨(h.push (tupObj rest)).push (excObj 51 h.objs.size none), g, d, t, os⟩) :
    codeAny (model prog w) A (.call (.ref 51) ⟨rest, []⟩) R ⟨h, g, d, t, os⟩ := by
  have F := PySem.F.excBase_Exception
  refine codeAny_of_tree ?_
  show wpAny _ _ (callAny (.ref 51) _) _ _ _
  refine nd_load hC ?_
  show wpAny _ _ (callAny.viaDunder (.ref 51) _) _ _ _
  unfold callAny.viaDunder
  refine wpAny_bind (hcall.at ?_)
  dsimp only
  rw [tc_bind]
  refine wpAny_bind (wpAny_pure (wpAny_bind (wpAny_pure ?_)))
  refine wpAny_pure (a := Fin.again (.call (.builtin "type.__call__") ⟨.ref 51 :: rest, []⟩)) (And.intro rfl ?_)
  refine codeAny_call_builtin_at (Code.quiet_builtin _ (by decide +kernel)) entry_typeCall (check_slot tc_kind tc_split typ (tc_args _ _ _) ?_)
  repeat (first | with_reducible refine wpAny_loadPart_at hC ?_ | with_reducible refine wpAny_madeBy_exc hC ?_ | wp_step)
  refine codeAny_call_builtin_code (Code.quiet_builtin _ F.quiet) (exc_check_new hC ?_)
  refine exc_new hC ?_ hrest
  have k : ∀ b o, h.get? b = some o → ((h.push (tupObj rest)).push (excObj 51 h.objs.size none)).get? b = some o := fun b o e => Heap.get?_push_of_some _ (Heap.get?_push_of_some _ e)
  have hx : ((h.push (tupObj rest)).push (excObj 51 h.objs.size none)).get? (h.objs.size + 1) = some (excObj 51 h.objs.size none) := by heap_get
  have t1 : Looks (model prog w) ((h.push (tupObj rest)).push (excObj 51 h.objs.size none)) (typeOf (.ref (h.objs.size + 1))) (.ref 51) := (Looks.ld hx).andThen .now
  have hC₁ := k _ _ hC
  have hcC : ([.ref 51, .ref 31, .type "Exception", .type "BaseException", .type "object"] : List Value).contains (.ref 51) = true := by decide +kernel
  have i1 := hi.keeps k
  have b1 := (hb (.ref (h.objs.size + 1))).keeps k
  have s1 := self.keeps k
  show wpAny _ _ _ _ _ _
  unfold isInstance callSpecial? specialOf
  repeat (first | with_reducible refine wpAny_call ?_ | lk)
  refine codeAny_mono hq fun r s' z => ?_
  rcases r with e | (v | _ | _ | _) <;> first | exact z | exact z.elim | skip
  obtain ⟨rfl, z⟩ := z
  exact wpAny_pure (wpAny_pure z)
end

section
variable {prog : Program} {w : World} {A : Around} {s : Shared} {K : Frag} {L x : Addr} {h₀ : Heap} {m : Str → Option Value} {news : List (Addr × Obj)} {R : Result → Shared → Prop} {E : Value → Shared → Prop} {Q : Value → Shared → Prop}
theorem call_exc {pos : List Value} (F : Fr h₀ L s.heap m) (X₀ : K.In h₀) (N : News h₀ L s.heap news) (hC : K.lookup 51 = some clsS) (hi : findIn K (.ref 51) "__init__" = some (some (.ref 48))) (hf : isFn K (.ref 48) = true)
    (h1 : specialIn K (.ref 51) "__call__" = some (some (.builtin "type.__call__"))) (h2 : instIn K (.ref 51) (.type "type") = some true) (h3 : mroIn K 51 (.ref 51) = some true) (hz : pos.length ≤ sizeLine)
    (h : ∀ x t h', Fr h₀ L h' m → News h₀ L h' ((x, excObj 51 t none) :: (t, tupObj pos) :: news) → (∀ p ∈ news, p.1 < t) → t < x →
      codeAny (model prog w) (A.under (.builtin "type.__call__" ⟨.ref 51 :: pos, []⟩)) (.call (.ref 48) ⟨.ref x :: pos, []⟩) (InitBack x fun r s' => match r with | .ok (.ret v) => Q v s' | .ok _ => False | .error e => E e s') { s with heap := h' }) :
    wpAny (model prog w) A (call (.ref 51) pos []) Q E s := by
  refine wpAny_call ?_
  have X := X₀.keeps F.keep
  obtain ⟨hh, g, d, t, os⟩ := s
  refine exc_core (X _ _ hC) hz (looks_instIn X h2) (looks_mroIn X h3) (looks_specialIn X h1) (looks_findIn X hi) (fun self => bind_fn X self (beq_iff_eq.mp hf)) (h _ hh.objs.size _ ((F.push _).push _) ?_ (fun p hp => Heap.lt_size (N p hp).1) (Nat.lt_succ_self _))
  have := (N.push F (tupObj pos)).push (F.push _) (excObj 51 hh.objs.size none)
  rwa [Heap.size_push] at this
end

section
variable {w : World} {A : Around} {E : Value → Shared → Prop} {h : Heap} {g : Array GenState} {d : Drawn} {t : Nat} {os : OsState}
theorem exc_check_init {M : Model} {e : Addr} {oe : Obj} {rest : List Value} {Q : Unit → Shared → Prop} (hC : h.get? 51 = some clsS) (he : h.get? e = some oe) (hcls : oe.cls = .ref 51) (hq : Q () ⟨h, g, d, t, os⟩) :
    wpAny M A (checkBuiltinCall "Exception.__init__" ⟨.ref e :: rest, []⟩) Q E ⟨h, g, d, t, os⟩ := by
  have F := PySem.F.excBase_Exception
  have hcB : ([.ref 51, .ref 31, .type "Exception", .type "BaseException", .type "object"] : List Value).contains (.type "Exception") = true := by decide +kernel
  have hshort := F.noStar
  simp only [checkBuiltinCall, F.initKind, F.initSplit, F.initRow]
  repeat (first | (with_reducible refine wpAny_loadPart_at he ?_; rw [hcls]) | with_reducible refine wpAny_loadPart_at hC ?_ | (with_reducible refine wpAny_isSubtype_exc hC ?_; rw [hcB]) | wp_step)
  refine wpAny_onRaise ?_
  rw [show ∀ (a b : String) (n : Nat), Bind.check ⟨.positional, "*", "Exception", .self, [⟨"args", .varPos, false⟩]⟩ a b n (List.map (fun x => x.fst) ({ pos := Value.ref e :: rest } : Args).kw) = pure () from
    fun a b n => check_star_args _ _ _ _ _ _]
  exact wpAny_pure hq
end

section
variable {prog : Program} {w : World} {A : Around} {s : Shared} {K : Frag} {L x : Addr} {h₀ : Heap} {m : Str → Option Value} {news : List (Addr × Obj)} {R : Result → Shared → Prop} {E : Value → Shared → Prop} {Q : Value → Shared → Prop}
set_option maxHeartbeats 1000000 in
theorem call_einit {t : Addr} {v : Value} {pre post : List (Addr × Obj)} {dx : Option Addr} (F : Fr h₀ L s.heap m) (X₀ : K.In h₀) (N : News h₀ L s.heap (pre ++ (x, excObj 51 t dx) :: post)) (hC : K.lookup 51 = some clsS)
    (a : ∀ p ∈ pre, p.1 ≠ x) (b : ∀ p ∈ post, p.1 ≠ x)
    (h : ∀ T h', Fr h₀ L h' m → News h₀ L h' ((T, tupObj [v]) :: (pre ++ (x, excObj 51 T dx) :: post)) → (∀ p ∈ pre ++ (x, excObj 51 t dx) :: post, p.1 < T) → Q .none { s with heap := h' }) :
    wpAny (model prog w) A (call (.builtin "Exception.__init__") [.ref x, v]) Q E s := by
  have FB := PySem.F.excBase_Exception
  have X := X₀.keeps F.keep
  have hx := (N (x, excObj 51 t dx) (by simp)).1
  have hC' := X _ _ hC
  obtain ⟨hh, g, d, tk, os⟩ := s
  dsimp only at hx hC'
  refine wpAny_call (codeAny_call_builtin FB.init.plain FB.initEntry (exc_check_init hC' hx rfl ?_))
  wp_walk
  have lt : ∀ p ∈ pre ++ (x, excObj 51 t dx) :: post, p.1 < hh.objs.size := fun p hp => Heap.lt_size (N p hp).1
  have N1 : News h₀ L (hh.push (tupObj [v])) (((hh.objs.size, tupObj [v]) :: pre) ++ (x, excObj 51 t dx) :: post) := N.push F (tupObj [v])
  obtain ⟨U1, U2⟩ := news_upd (f := Obj.mapFields fun y => y.setIfInBounds 0 (Value.ref hh.objs.size)) (o' := excObj 51 hh.objs.size dx) (F.push _) N1
    (List.forall_mem_cons.mpr ⟨Nat.ne_of_gt (lt (x, excObj 51 t dx) (by simp)), a⟩) b rfl rfl
  exact h _ _ U1 U2 lt

open Builtin Builtin.ObjectAttr
theorem exc_refuse (self : Value) : refuseLoop self "__setattr__" [.ref 51, .ref 31, .type "Exception", .type "BaseException", .type "object"] = pure () := by
  rw [refuseLoop_ref, refuseLoop_ref]
  kernel_rfl
/-- the store into an exception of our class, up to its dict -/
theorem exc_osa {t : Addr} {dx : Option Addr} {name : Str} {tk : Tok} {v : Value} (X : K.In s.heap) (hC : K.lookup 51 = some clsS) (hx : s.heap.get? x = some (excObj 51 t dx)) (h3 : mroIn K 51 (.type "object") = some true) (hn : findIn K (.ref 51) name = some none)
    (h : wpAny (model prog w) A.in1 (storeInOwnDict (.ref x) (.ref 51) (.str name tk) name v false)
      (fun fin s' => match fin with | .done f => R (.ok f) s' | .again c' => c'.quiet = true ∧ codeAny (model prog w) A c' R s') (fun e s' => R (.error e) s') s) :
    codeAny (model prog w) A (.call (.builtin "object.__setattr__") ⟨[.ref x, .str name tk, v], []⟩) R s := by
  have SF := PySem.F.store_object
  have hT : Looks (model prog w) s.heap (typeOf (.ref x)) (.ref 51) := (Looks.ld hx).andThen .now
  have sub : Looks (model prog w) s.heap (isInstance (.ref x) (.type "object")) true := hT.andThen (looks_mroIn X h3)
  refine codeAny_call_builtin SF.slot.plain SF.entry (@check_slot (model prog w) _ _ s "object.__setattr__" "object" "__setattr__" (.ref x) [.str name tk, v] [] _ SF.kind SF.split sub (SF.args (.ref x) (.str name tk) v) ?_)
  obtain ⟨cd, hc, hmr⟩ : ∃ cd, clsIn K 51 = some cd ∧ cd.mro = [.ref 51, .ref 31, .type "Exception", .type "BaseException", .type "object"] := ⟨_, by unfold clsIn; rw [hC], rfl⟩
  have hm : Looks (model prog w) s.heap (mroOf (.ref 51)) [.ref 51, .ref 31, .type "Exception", .type "BaseException", .type "object"] := hmr ▸ (looks_clsIn X hc).andThen .now
  rw [osa_eq, refuse_eq]
  refine wpAny_bind (wpAny_bind (hT.here (wpAny_bind (hm.here ?_))))
  rw [exc_refuse]
  exact wpAny_pure (wpAny_bind (hT.here (wpAny_bind ((looks_findIn X hn).here (wpAny_bind (wpAny_pure h))))))

theorem putL_len (name : Str) (hsh : Int) (key v : Value) : ∀ es : List DictEntry, (putL name hsh key v es).length ≤ es.length + 1
  | [] => Nat.le_refl _
  | e :: r => by
    unfold putL
    split
    · exact Nat.le_succ _
    · exact Nat.succ_le_succ (putL_len name hsh key v r)
/-- the entry into a dict of the ledger -/
theorem store_in {name : Str} {tk : Tok} {v : Value} {dx : Addr} {pre post : List (Addr × Obj)} {es : List DictEntry} {n : Nat} (F : Fr h₀ L s.heap m) (N : News h₀ L s.heap (pre ++ (dx, dictOf es n) :: post)) (h1 : ∀ p ∈ pre, p.1 ≠ dx) (h2 : ∀ p ∈ post, p.1 ≠ dx)
    (hr : es.any (·.refKey) = false) (hz : es.length ≤ 900)
    (h : ∀ es' n' h', Fr h₀ L h' m → (es = [] → es'.any (·.refKey) = false ∧ es'.length ≤ 1) → News h₀ L h' (pre ++ (dx, dictOf es' n') :: post) → R (.ok (.ret .none)) { s with heap := h', toks := s.toks + 1 }) :
    wpAny (model prog w) A.in1 (storeInDict dx (.str name tk) name v)
      (fun fin s' => match fin with | .done f => R (.ok f) s' | .again c' => c'.quiet = true ∧ codeAny (model prog w) A c' R s') (fun e s' => R (.error e) s') s := by
  obtain ⟨es', e1⟩ : ∃ es', putL name (PyData.keyHash w.params name) (.str name s.toks) v es = es' := ⟨_, rfl⟩
  obtain ⟨n', e2⟩ : ∃ n', putN name es n = n' := ⟨_, rfl⟩
  have hz' : es'.length ≤ 1000 := by have := putL_len name (PyData.keyHash w.params name) (.str name s.toks) v es; rw [e1] at this; omega
  obtain ⟨U1, U2⟩ := news_upd (f := Obj.putName name (PyData.keyHash w.params name) (.str name s.toks) v) (o' := dictOf es' n') F N h1 h2 (by rw [putName_dict, e1, e2]) rfl
  have D := (N (dx, dictOf es n) (by simp)).1
  have D' := (U2 (dx, dictOf es' n') (by simp)).1
  refine wpAny_bind (wpAny_pure (wpAny_bind ?_))
  unfold nsSet
  refine wpAny_bind (wpAny_bind (wpAny_askSetting (wpAny_pure (wpAny_bind (wpAny_mkText (wpAny_bind (wpAny_loadPart D ?_)))))))
  dsimp only
  have c : (!es.toArray.any (·.key.isStr name) && es.toArray.any (·.refKey)) = false := by
    rw [← Array.any_toList, ← Array.any_toList, hr, Bool.and_false]
  rw [aRefKeyMayBeTheName_at, c]
  refine wpAny_updatePart D ?_
  refine wpAny_bind (wpAny_lookBehind D' (by exact pastItsLine_dict (by rw [List.size_toArray, sizeLine_eq]; omega)) ?_)
  exact wpAny_pure (h _ _ _ U1 (fun q => by subst q; subst e1; exact ⟨rfl, Nat.le_refl _⟩) U2)

theorem exc_cls {x : Addr} {t : Addr} {dx : Option Addr} {M : Model} {Q : Option Addr → Shared → Prop} (X : K.In s.heap) (hC : K.lookup 51 = some clsS) (hx : s.heap.get? x = some (excObj 51 t dx))
    (h : wpAny M A (match dx with
      | some d => pure (some d)
      | none => do
        let d ← alloc { cls := .type "dict", data := .dict #[] }
        update x fun o => { o with dict := some d }
        pure (some d)) Q E s) : wpAny M A (ownDictForStores (.ref x)) Q E s := by
  obtain ⟨cd, hc, hmr⟩ : ∃ cd, clsIn K 51 = some cd ∧ cd.hasDict = true := ⟨_, by unfold clsIn; rw [hC], rfl⟩
  unfold ownDictForStores instanceDict
  refine wpAny_bind (wpAny_loadPart hx (wpAny_bind ((looks_clsIn X hc).here ?_)))
  rw [hmr]
  cases dx with
  | some d => exact h
  | none => exact h

theorem set_exc0 {t : Addr} {name : Str} {v : Value} {post : List (Addr × Obj)} {Q : Unit → Shared → Prop} (F : Fr h₀ L s.heap m) (X₀ : K.In h₀) (N : News h₀ L s.heap ((x, excObj 51 t none) :: post)) (hC : K.lookup 51 = some clsS)
    (hs : findIn K (.ref 51) "__setattr__" = some (some (.builtin "object.__setattr__"))) (h3 : mroIn K 51 (.type "object") = some true) (hn : findIn K (.ref 51) name = some none) (b : ∀ p ∈ post, p.1 ≠ x)
    (h : ∀ dx es n h', Fr h₀ L h' m → es.any (·.refKey) = false → es.length ≤ 1 → News h₀ L h' ((dx, dictOf es n) :: (x, excObj 51 t (some dx)) :: post) → (∀ p ∈ (x, excObj 51 t none) :: post, p.1 < dx) → Q () { s with heap := h', toks := s.toks + 2 }) :
    wpAny (model prog w) A (setAttr (.ref x) name v) Q E s := by
  have X := X₀.keeps F.keep
  have hx := (N (x, excObj 51 t none) (by simp)).1
  have I : InstAt s.heap x (excObj 51 t none) 51 none := ⟨hx, rfl, rfl, trivial⟩
  refine set_plain X I hs ?_
  obtain ⟨hh, g, d, tk, os⟩ := s
  refine exc_osa (dx := none) X hC hx h3 hn ?_
  refine wpAny_bind (wpAny_pure ?_)
  refine wpAny_bind (exc_cls (dx := none) X hC hx ?_)
  refine wpAny_bind (wpAny_alloc (wpAny_bind ?_))
  have lt : ∀ p ∈ (x, excObj 51 t none) :: post, p.1 < hh.objs.size := fun p hp => Heap.lt_size (N p hp).1
  have N1 : News h₀ L (hh.push emptyDict) ([(hh.objs.size, emptyDict)] ++ (x, excObj 51 t none) :: post) := N.push F emptyDict
  obtain ⟨U1, U2⟩ := news_upd (f := fun o => { o with dict := some hh.objs.size }) (o' := excObj 51 t (some hh.objs.size)) (F.push _) N1
    (List.forall_mem_cons.mpr ⟨Nat.ne_of_gt (lt (x, excObj 51 t none) (by simp)), List.forall_mem_nil _⟩) b rfl rfl
  have hx' := (N1 (x, excObj 51 t none) (by simp)).1
  refine wpAny_update hx' (wpAny_pure ?_)
  refine store_in (prog := prog) (w := w) (A := A) (R := fun r s' => match r with | .ok (.ret _) => Q () s' | .ok _ => False | .error e => E e s') (name := name) (v := v) (tk := tk + 1) (pre := []) (es := []) (n := 0) (s := ⟨_, g, d, tk + 1, os⟩) U1 U2 (List.forall_mem_nil _) (List.forall_mem_cons.mpr ⟨Nat.ne_of_lt (lt (x, excObj 51 t none) (by simp)), fun p hp => Nat.ne_of_lt (lt p (.tail _ hp))⟩) rfl (by decide) ?_
  intro es' n' h' F' hes N'
  exact h _ _ _ h' F' (hes rfl).1 (hes rfl).2 N' lt

theorem set_exc1 {t dx : Addr} {name : Str} {v : Value} {es : List DictEntry} {n : Nat} {post : List (Addr × Obj)} {Q : Unit → Shared → Prop} (F : Fr h₀ L s.heap m) (X₀ : K.In h₀) (N : News h₀ L s.heap ((dx, dictOf es n) :: (x, excObj 51 t (some dx)) :: post)) (hC : K.lookup 51 = some clsS)
    (hs : findIn K (.ref 51) "__setattr__" = some (some (.builtin "object.__setattr__"))) (h3 : mroIn K 51 (.type "object") = some true) (hn : findIn K (.ref 51) name = some none) (hr : es.any (·.refKey) = false) (hl : es.length ≤ 1) (b : ∀ p ∈ (x, excObj 51 t (some dx)) :: post, p.1 ≠ dx)
    (h : ∀ es' n' h', Fr h₀ L h' m → News h₀ L h' ((dx, dictOf es' n') :: (x, excObj 51 t (some dx)) :: post) → Q () { s with heap := h', toks := s.toks + 2 }) :
    wpAny (model prog w) A (setAttr (.ref x) name v) Q E s := by
  have X := X₀.keeps F.keep
  have hx := (N (x, excObj 51 t (some dx)) (by simp)).1
  have hd := (N (dx, dictOf es n) (by simp)).1
  have I : InstAt s.heap x (excObj 51 t (some dx)) 51 (some (dictOf es n)) := ⟨hx, rfl, rfl, hd⟩
  refine set_plain X I hs ?_
  obtain ⟨hh, g, d, tk, os⟩ := s
  refine exc_osa (dx := some dx) X hC hx h3 hn ?_
  refine wpAny_bind (wpAny_pure ?_)
  refine wpAny_bind (exc_cls (dx := some dx) X hC hx (wpAny_pure ?_))
  refine store_in (prog := prog) (w := w) (A := A) (R := fun r s' => match r with | .ok (.ret _) => Q () s' | .ok _ => False | .error e => E e s') (name := name) (v := v) (tk := tk + 1) (pre := []) (s := ⟨_, g, d, tk + 1, os⟩) F N (List.forall_mem_nil _) b hr (by omega) ?_
  intro es' n' h' F' _ N'
  exact h _ _ h' F' N'
end

theorem meta_exc : typeOf (.type "Exception") = pure (.type "type") := by kernel_rfl

theorem reg48 : True := by
  k_with "getMethod type:Exception" => (k_here; refine' method_type ?F ?X ?m (by decide +kernel) ?e ?h ?_; (case F => k_asm); (case X => k_asm); (case m => exact Mine.meta_exc); (case e => k_dflt k_is); (case h => k_handed))
  k_with "call builtin:Exception.__init__" => (k_here; k_dflt (refine' Mine.call_einit (pre := []) ?F ?X ?N ?C ?a ?b ?_; (case F => k_asm); (case X => k_asm); (case N => k_asm); (case C => exact Mine.clsS_in _); (case a => exact List.forall_mem_nil _); (case b => assumption)); intro T9Z h9Z F9Z N9Z l1Z; (try k_lt l1Z); (try dsimp only); (try k_sweep); (try k_fold))
  trivial

set_option maxHeartbeats 4000000 in
theorem exc_make {w : World} {mean : ExcName → Option Value} {mg mb : Str → Option Value} {dp un : Nat} {gd : Option (List Code)} {cn : Str} {cs : Scope} {a : Addr} {ccd : Value} {cl : List (Str × Addr)} {outer : List Env} {A₀ : Around} {base h₀ : Heap} {L : Addr} {m : Str → Option Value} {s : Shared} {Q E : Value → Shared → Prop} {line : Int} {x : Str} {tl tx : Tok} {news : List (Addr × Obj)}
    (B : Below A₀ base outer h₀) (F : Fr h₀ L s.heap m) (X : (K0 w.params).In h₀) (T : Top V0 (looseW V0 []) mean mg mb h₀) (hk : cs.kind = .function) (N : News h₀ L s.heap news) (hd' : dp + 6 < recursionLimit) (hu : un + 48 < cLine)
    (hret : ∀ e T dx h' tk', (∀ p ∈ news, p.1 < e) → (∀ p ∈ news, p.1 < T) → Fr h₀ L h' m → News h₀ L h' ((e, excObj 51 T (some dx)) :: (T, tupObj [.str x tx]) :: news) → Q (.ref e) { s with heap := h', toks := tk' }) :
    wpAny (model PySem.Challenge.rw_no0235_01.row.prog w) (ktrTop dp un gd cn cs L a ccd cl outer) (call (.ref 51) [.int line tl, .str x tx]) Q E s := by
  revert X; k_fill; intro X; w_top off
  k_dflt (refine' call_exc ?k1 ?k2 ?k3 (clsS_in _) ?k4 ?k5 ?k6 ?k7 ?k8 ?k9 ?_; (case k1 => k_asm); (case k2 => k_asm); (case k3 => k_asm); (case k4 => k_is); (case k5 => k_is); (case k6 => k_is); (case k7 => k_is); (case k8 => k_is); (case k9 => exact Nat.le_of_ble_eq_true rfl); k_whole; intro x' t' h' F' N' l1 l2; (try k_sweep))
  k_dflt (refine' code_def (binds := [(Str.ofString "self", .ref x'), (Str.ofString "line", .int line tl), (Str.ofString "text", .str x tx)]) ?k1 ?k2 ?k3 ?k4 ?k5 ?kA ?kF ?kK ?k6 ?k7 ?k8 ?k9 ?kB ?_ ?c2 ?c3 ?c4 ?c5; (case kA => exact rfl); (case kF => exact rfl); (case kK => assumption); (case k1 => k_asm); (case k2 => k_asm); (case k3 => k_asm); (case k4 => k_asm); (case k5 => k_asm); (case k6 => k_is); (case k7 => k_is); (case k8 => ktr_room); (case k9 => exact BindsTo.of_eq (by with_unfolding_all rfl)); (case c5 => decide); (case kB => exact locs rfl); (case c2 => exact rfl); (case c3 => exact rfl); (case c4 => exact rfl); k_whole; intro g' L' h' FG' F' N' B' X' T'; (try dsimp only); (try k_lift B'); (try k_fold))
  have hlt : ∀ p ∈ (t', tupObj [Value.int line tl, Value.str x tx]) :: news, p.1 < x' := List.forall_mem_cons.mpr ⟨l2, fun p hp => Nat.lt_trans (l1 p hp) l2⟩
  have hoff : ∀ p ∈ (t', tupObj [Value.int line tl, Value.str x tx]) :: news, p.1 ≠ x' := fun p hp => Nat.ne_of_lt (hlt p hp)
  k_steps
  rename News _ _ _ ((_, tupObj _) :: _) => N1
  rename (∀ p : Addr × Obj, p ∈ _ → p.1 < _) => lT
  obtain ⟨T, rfl, lT'⟩ : ∃ T, T = _ ∧ ∀ p : Addr × Obj, p ∈ _ → p.1 < T := ⟨_, rfl, lT⟩
  have N2 : News _ _ _ ((x', excObj 51 T none) :: (T, tupObj [.str x tx]) :: (t', tupObj [Value.int line tl, Value.str x tx]) :: news) := fun p hp => N1 p (by
    rcases List.mem_cons.mp hp with rfl | hp
    · exact .tail _ (.head _)
    · rcases List.mem_cons.mp hp with rfl | hp
      · exact .head _
      · exact .tail _ (.tail _ hp))
  have hoff2 : ∀ p ∈ (T, tupObj [.str x tx]) :: (t', tupObj [Value.int line tl, Value.str x tx]) :: news, p.1 ≠ x' := List.forall_mem_cons.mpr ⟨Nat.ne_of_gt (lT' (x', excObj 51 t' none) (.head _)), hoff⟩
  k_dflt (refine' set_exc0 (post := (T, tupObj [.str x tx]) :: (t', tupObj [Value.int line tl, Value.str x tx]) :: news) ?F ?X N2 (clsS_in _) ?s ?o ?n hoff2 ?_; (case F => k_asm); (case X => k_asm); (case s => k_is); (case o => k_is); (case n => k_is))
  intro dx es n h9 F9 hes hel N9 lx
  k_steps
  have lx' : ∀ p ∈ (x', excObj 51 T (some dx)) :: (T, tupObj [.str x tx]) :: (t', tupObj [Value.int line tl, Value.str x tx]) :: news, p.1 ≠ dx := by
    intro p hp
    rcases List.mem_cons.mp hp with rfl | hp
    · exact Nat.ne_of_lt (lx (x', excObj 51 T none) (.head _))
    · exact Nat.ne_of_lt (lx p (.tail _ hp))
  rename News _ _ _ _ => N8
  k_dflt (refine' set_exc1 (post := (T, tupObj [.str x tx]) :: (t', tupObj [Value.int line tl, Value.str x tx]) :: news) ?F ?X N8 (clsS_in _) ?s ?o ?n hes hel lx' ?_; (case F => k_asm); (case X => k_asm); (case s => k_is); (case o => k_is); (case n => k_is))
  intro es' n' h8 F8 N8
  k_steps
  rename News h₀ L _ _ => kN
  refine hret x' T dx _ _ (fun p hp => Nat.lt_trans (l1 p hp) l2) (fun p hp => lT' p (.tail _ (.tail _ hp))) (by k_asm) (fun p hp => kN p ?_)
  rcases List.mem_cons.mp hp with rfl | hp
  · exact .tail _ (.head _)
  · rcases List.mem_cons.mp hp with rfl | hp
    · exact .tail _ (.tail _ (.head _))
    · exact .tail _ (.tail _ (.tail _ (.tail _ hp)))

/-- all that a heap holds beyond its base and one frame -/
def allOf (h₀ h : Heap) (L : Addr) : List (Addr × Obj) := (List.range h.objs.size).filterMap fun b => match h.get? b with
  | some o => if b ≠ L ∧ h₀.get? b = none then some (b, o) else none
  | none => none
theorem allOf_news (h₀ h : Heap) (L : Addr) : News h₀ L h (allOf h₀ h L) := by
  intro p hp
  obtain ⟨b, _, hb⟩ := List.mem_filterMap.mp hp
  cases q : h.get? b with
  | none => rw [q] at hb; cases hb
  | some o =>
    rw [q] at hb
    dsimp only at hb
    split at hb
    · rename_i hc
      cases hb
      exact ⟨q, hc.1, hc.2⟩
    · cases hb
theorem allOf_mem {h₀ h : Heap} {L b : Addr} {o : Obj} (q : h.get? b = some o) (h1 : b ≠ L) (h2 : h₀.get? b = none) : (b, o) ∈ allOf h₀ h L := by
  refine List.mem_filterMap.mpr ⟨b, List.mem_range.mpr (Heap.lt_size q), ?_⟩
  rw [q]
  dsimp only
  rw [if_pos ⟨h1, h2⟩]

structure MadeS (L : Addr) (h h' : Heap) (e T dx : Addr) (vs : List Value) : Prop where
  keep : ∀ b o, b ≠ L → h.get? b = some o → h'.get? b = some o
  new : h.get? e = none
  there : h'.get? e = some (excObj 51 T (some dx))
  tnew : h.get? T = none
  tup : h'.get? T = some (tupObj vs)
theorem exc_made {w : World} {mean : ExcName → Option Value} {mg mb : Str → Option Value} {dp un : Nat} {gd : Option (List Code)} {cn : Str} {cs : Scope} {a : Addr} {ccd : Value} {cl : List (Str × Addr)} {outer : List Env} {A₀ : Around} {base h₀ : Heap} {L : Addr} {m : Str → Option Value} {s : Shared} {Q E : Value → Shared → Prop} {line : Int} {x : Str} {tl tx : Tok}
    (B : Below A₀ base outer h₀) (F : Fr h₀ L s.heap m) (X : (K0 w.params).In h₀) (T : Top V0 (looseW V0 []) mean mg mb h₀) (hk : cs.kind = .function) (hd' : dp + 6 < recursionLimit) (hu : un + 48 < cLine)
    (hret : ∀ e T dx h' tk', MadeS L s.heap h' e T dx [.str x tx] → Fr h₀ L h' m → Q (.ref e) { s with heap := h', toks := tk' }) :
    wpAny (model PySem.Challenge.rw_no0235_01.row.prog w) (ktrTop dp un gd cn cs L a ccd cl outer) (call (.ref 51) [.int line tl, .str x tx]) Q E s := by
  refine exc_make B F X T hk (allOf_news h₀ s.heap L) hd' hu ?_
  intro e T dx h' tk' l1 l2 F' N'
  have he := N' (e, excObj 51 T (some dx)) (.head _)
  have hT := N' (T, tupObj [.str x tx]) (.tail _ (.head _))
  have isnew : ∀ b, b ≠ L → h₀.get? b = none → (∀ p ∈ allOf h₀ s.heap L, p.1 < b) → s.heap.get? b = none := by
    intro b h1 h2 h3
    cases q : s.heap.get? b with
    | none => rfl
    | some o => exact absurd (h3 _ (allOf_mem q h1 h2)) (Nat.lt_irrefl _)
  refine hret e T dx h' tk' ⟨fun b o h1 q => ?_, isnew e he.2.1 he.2.2 l1, he.1, isnew T hT.2.1 hT.2.2 l2, hT.1⟩ F'
  cases q0 : h₀.get? b with
  | some o' =>
    have := F.keep b o' q0
    rw [q] at this
    cases this
    exact F'.keep b o q0
  | none => exact (N' (b, o) (.tail _ (.tail _ (allOf_mem q h1 q0)))).1

section
variable {M : Model} {A : Around} {E : Value → Shared → Prop} {s : Shared} {env : Env}
theorem raise_made {x : Sem Value} {Q : Flow → Shared → Prop} (hh : A.handled = none)
    (h : wpAny M A x (fun v s₁ => ∃ e t dx, v = .ref e ∧ s₁.heap.get? 51 = some clsS ∧ s₁.heap.get? e = some (excObj 51 t (some dx)) ∧ E (.ref e) s₁) E s) :
    wpAny M A (raiseStmt env (some x) none) Q E s := by
  have hcB : ([.ref 51, .ref 31, .type "Exception", .type "BaseException", .type "object"] : List Value).contains (.type "BaseException") = true := by decide +kernel
  unfold raiseStmt
  refine wpAny_bind (wpAny_mono h (fun v s₁ h₁ => ?_) fun _ _ x => x)
  obtain ⟨e, t, dx, rfl, hC, he, hE⟩ := h₁
  obtain ⟨hp, g, d, tk, os⟩ := s₁
  repeat (first | with_reducible refine wpAny_loadPart_at he ?_ | with_reducible refine wpAny_loadPart_at hC ?_ | (with_reducible refine wpAny_isSubtype_exc hC ?_; rw [hcB]) | wp_step)
  exact wpAny_raiseNew_none hh hE
end
section
variable {prog : Program} {w : World} {A : Around} {E : Value → Shared → Prop} {s : Shared} {env : Env}
theorem raise_exec {ex : PySem.Expr} {pos : Pos} {Q : Flow → Shared → Prop} (hh : A.handled = none)
    (h : wpAny (model prog w) A (eval ex env) (fun v s₁ => ∃ e t dx, v = .ref e ∧ s₁.heap.get? 51 = some clsS ∧ s₁.heap.get? e = some (excObj 51 t (some dx)) ∧ E (.ref e) s₁) E s) :
    wpAny (model prog w) A (exec (.Raise (some ex) none pos) env) Q E s := by
  rw [arm_exec_Raise]
  refine wpAny_bind (wpAny_standAt (raise_made hh ?_))
  refine wpAny_bind (wpAny_mono h (fun v s₃ h₃ => wpAny_bind (wpAny_standAt (wpAny_pure h₃))) fun _ _ x => x)
end

theorem funFrames_of {base h h' : Heap} {as : List Addr} : ∀ {l : List Env}, h'.FunFrames base l → (∀ env ∈ l, ∀ a, env.frame = some a → a ∈ as) → h'.FunFrames (hideAll h as) l
  | [], _, _ => trivial
  | env :: _, ⟨hk, ⟨L, o, hf, _, ho, hd⟩, hr⟩, hin => ⟨hk, ⟨L, o, hf, hideAll_none _ (hin env (.head _) L hf), ho, hd⟩, funFrames_of hr fun e he => hin e (.tail _ he)⟩
section
variable {M : Model} {A : Around} {E : Value → Shared → Prop} {s' : Shared} {base g h : Heap} {outer : List Env} {L a e t dx : Addr} {m m' : Str → Option Value} {name : Str} {scope : Scope} {cd : Value} {Q : Unit → Shared → Prop} {news : List (Addr × Obj)}
theorem leave_exc {vs : List Value} (K : Below A base outer g) (hx : MadeS L h s'.heap e t dx vs) (F : Fr g L h m) (F' : Fr g L s'.heap m') (N : News g L h news)
    (hQ : ∀ h' t, RaisedS base g outer e (.ref 51) t vs news h' → g.UpToSlots h' → Q () { s' with heap := h' }) (hk : scope.kind = .function := by rfl) :
    wpAny M (A.deeper (envOf name scope L a cd)) (leaving (envOf name scope L a cd) (.ref e)) Q E s' := by
  have K' := K.push (name := name) (a := a) (cd := cd) F hk
  have K2 := K.push (name := name) (a := a) (cd := cd) F' hk
  have hin : ∀ env ∈ (envOf name scope L a cd :: outer), ∀ b, env.frame = some b → b ∈ (envOf name scope L a cd :: outer).filterMap (·.frame) := fun env he b hb => List.mem_filterMap.mpr ⟨env, he, hb⟩
  have st : base.StaysIn (hideAll h ((envOf name scope L a cd :: outer).filterMap (·.frame))) := fun b o q => hideAll_get _ (K'.stays b o q) fun hm => by
    rw [(K'.frames.mem hm).1] at q; cases q
  have sg : ∀ b o, g.get? b = some o → b ∉ outer.filterMap (·.frame) → (hideAll h ((envOf name scope L a cd :: outer).filterMap (·.frame))).get? b = some o := fun b o q nm => hideAll_get _ (F.keep b o q) fun hm => by
    rcases kts_mem hm with z | z
    · rw [z, kts_self F] at q
      cases q
    · exact nm z
  have hl : ∀ q ∈ news, (hideAll h ((envOf name scope L a cd :: outer).filterMap (·.frame))).get? q.1 = some q.2 ∧ g.get? q.1 = none ∧ base.get? q.1 = none := fun q hq => by
    refine ⟨hideAll_get _ (N q hq).1 fun hm => ?_, (N q hq).2.2, fresh_of_stays K.stays (N q hq).2.2⟩
    obtain ⟨env, he, hf⟩ := List.mem_filterMap.mp hm
    rcases List.mem_cons.mp he with rfl | he
    · exact (N q hq).2.1 (Option.some.inj hf).symm
    · obtain ⟨o, ho, _⟩ := (K.frames.mem (List.mem_filterMap.mpr ⟨env, he, hf⟩)).2
      rw [(N q hq).2.2] at ho; cases ho
  have fresh : ∀ b, h.get? b = none → (hideAll h ((envOf name scope L a cd :: outer).filterMap (·.frame))).get? b = none := fun b hb => by
    cases hq : (hideAll h ((envOf name scope L a cd :: outer).filterMap (·.frame))).get? b with
    | none => rfl
    | some o' => have := of_hideAll _ hq; rw [hb] at this; cases this
  have hL : L ∈ (envOf name scope L a cd :: outer).filterMap (·.frame) := List.mem_filterMap.mpr ⟨_, .head _, rfl⟩
  have hk : (hideAll h ((envOf name scope L a cd :: outer).filterMap (·.frame))).StaysIn s'.heap := fun b o q => hx.keep b o (fun z => by
    subst z; rw [hideAll_none _ hL] at q; cases q) (of_hideAll _ q)
  refine wpAny_leaving_firstW (a0 := .ref t) K'.stack (funFrames_of K2.frames hin) rfl hx.there hk (fresh e hx.new) rfl rfl rfl fun h' hLw => ?_
  obtain ⟨k1, ⟨_, _, k2⟩, k3, k4⟩ := hLw
  refine hQ h' t ⟨⟨_, st, sg, hl, ⟨k1, fresh e hx.new, k2, k3⟩, fresh t hx.tnew⟩, Heap.TupAt.of_slots ⟨_, _, hx.tup, rfl, rfl⟩ k4⟩ ((Heap.UpToSlots.of_keeps F'.keep).trans k4)
end

theorem reg51 : True := by
  k_with "exec Raise some none" => (k_here; refine' Mine.raise_exec rfl ?_)
  k_with "call ref" => (k_here; (with_reducible show wpAny _ _ (call (Value.ref 51) [Value.int _ _, Value.str _ _]) _ _ _); k_dflt (refine' Mine.exc_made ?B ?F ?X ?T ?hk ?d ?u ?_; (case B => k_asm); (case F => k_asm); (case X => k_asm); (case T => k_asm); (case hk => first | exact rfl | assumption); (case d => ktr_room); (case u => ktr_units)); intro e9Z T9Z d9Z h9Z tk9Z hM9Z F9Z; (try dsimp only at hM9Z); (try dsimp only); (try k_fold))
  trivial
set_option maxHeartbeats 4000000 in
theorem rows_raise {w : World} {mean : ExcName → Option Value} {mg mb : Str → Option Value} {dp un : Nat} {gd : Option (List Code)} {cn : Str} {cs : Scope} {a : Addr} {ccd : Value} {cl : List (Str × Addr)} {outer : List Env} {A₀ : Around} {base h₀ : Heap} {L : Addr} {m : Str → Option Value} {s : Shared} {Q E : Value → Shared → Prop} {label : Int} {tl tx : Tok} {x : Str} {v : Value} {cont cols : Int} {news nl : List (Addr × Obj)}
    (B : Below A₀ base outer h₀) (F : Fr h₀ L s.heap m) (X : (K0 w.params).In h₀) (T : Top V0 (looseW V0 []) mean mg mb h₀) (hk : cs.kind = .function) (N : News h₀ L s.heap news) (hlim : IsLim w nl v cont cols) (hsl : ∀ p ∈ nl, p ∈ news) (hl0 : 0 ≤ label) (hl1 : label < 100000) (hx : x.length ≤ 1000) (hc : 8 ≤ cols ∧ cols ≤ 60) (hcn : 0 ≤ cont ∧ cont ≤ 1000) (hfit : cont < (nCont x (cols - 5 - 1) : Int)) (hd' : dp + 9 < recursionLimit) (hu : un + 80 < cLine)
    (hret : ∀ e t vs g h' tk', Fr h₀ L g m → g.UpToSlots h' → RaisedS base g (envX cn cs L a ccd cl :: outer) e (.ref 51) t vs news h' → E (.ref e) { s with heap := h', toks := tk' }) :
    wpAny (model PySem.Challenge.rw_no0235_01.row.prog w) (ktrTop dp un gd cn cs L a ccd cl outer) (call (.ref 60) [.int label tl, .str x tx, v]) Q E s := by
  obtain ⟨xl, dl, v1, v2, v3, v4, v5, v6, v7, v8, rfl, hx1, hx2⟩ := hlim.mono hsl
  have hw : 0 < cols - 5 - 1 := by omega
  have hnc := nCont_le x (cols - 5 - 1)
  revert X; k_fill; intro X; w_top off
  refine wpAny_call ?_
  k_dflt (refine' code_def (binds := [(Str.ofString "label", .int label tl), (Str.ofString "text", .str x tx), (Str.ofString "limits", .ref xl)]) ?k1 ?k2 ?k3 ?k4 ?k5 ?kA ?kF ?kK ?k6 ?k7 ?k8 ?k9 ?kB ?_ ?c2 ?c3 ?c4 ?c5; (case kA => exact rfl); (case kF => exact rfl); (case kK => assumption); (case k1 => k_asm); (case k2 => k_asm); (case k3 => k_asm); (case k4 => k_asm); (case k5 => k_asm); (case k6 => k_is); (case k7 => k_is); (case k8 => ktr_room); (case k9 => exact BindsTo.of_eq (by with_unfolding_all rfl)); (case c5 => decide); (case kB => exact locs rfl); (case c2 => exact rfl); (case c3 => exact rfl); (case c4 => exact rfl); k_whole; intro g' L' h' FG' F' N' B' X' T'; (try dsimp only); (try k_lift B'); (try k_fold))
  k_steps
  all_goals
    rename Fr _ _ _ _ => F1
    rename News _ _ _ _ => N1
    refine' While_M (σ := WSt) [] (fun c => [(Str.ofString "at", .int c.at_ c.t), (Str.ofString "rows", .ref c.l)]) (fun c => (c.l, listOf c.ys.toArray c.nn) :: news) (fun c => nCont x (cols - 5 - 1) - c.k)
      (fun c => (∀ p ∈ news, p.1 < c.l) ∧ c.k ≤ nCont x (cols - 5 - 1) ∧ c.at_ = ((c.k : Int) + 1) * (cols - 5 - 1) ∧ c.ys.length = c.k + 1) F1 N1 ?start ?turn
    case start =>
      exact ⟨⟨0, _, 0, _, cols - 5 - 1, _⟩, fun p hp => hp, List.forall_mem_cons.mpr ⟨rfl, List.forall_mem_cons.mpr ⟨rfl, List.forall_mem_nil _⟩⟩, by assumption, Nat.zero_le _, by simp, rfl⟩
    case turn =>
      intro cZ0 u h tk cZ4 F2 N2
      (try k_fold)
      obtain ⟨k, ys, nn, t', at_, l⟩ := cZ0
      obtain ⟨hk0, hk1, hk2, hyl⟩ := cZ4
      dsimp only at hk0 hk1 hk2 hyl F2 N2
      have hne : ∀ p ∈ news, p.1 ≠ l := fun p hp => Nat.ne_of_lt (hk0 p hp)
      (try k_fold)
      k_steps
      · rename (at_ < (x.length : Int)) => hlt
        rename Fr _ _ _ _ => F9
        rename News _ _ _ _ => N9
        refine EndM.intro ⟨k + 1, ys ++ [_], nn + 1, _, _, l⟩ F9 N9 ⟨List.forall_mem_cons.mpr ⟨rfl, List.forall_mem_cons.mpr ⟨rfl, List.forall_mem_nil _⟩⟩, ?_⟩ ⟨?_, hk0, ?_, ?_, ?_⟩ (List.forall_mem_nil _) sub_push (fun _ _ _ q => nomatch q)
        · intro z h2 h3
          simp only [List.forall_mem_cons, List.not_mem_nil, false_implies, implies_true, and_true, ne_eq] at h2
          simp [kstB, h2.1, h2.2]
        · have := lt_nCont hw (hk2 ▸ hlt)
          dsimp only; omega
        · exact lt_nCont hw (hk2 ▸ hlt)
        · dsimp only
          rw [hk2]; exact next_at k _
        · dsimp only
          rw [List.length_append, hyl]; rfl
      · rename Fr _ _ _ _ => F9
        exact (X'.keeps F9.keep) _ _ (clsS_in _)
      · rename MadeS _ _ _ _ _ _ _ => hM
        exact hM.there
      · rename MadeS _ _ _ _ _ _ _ => hM
        rename Fr _ _ _ _ => F9
        refine' leave_exc (news := news) ?K hM F2 F9 (fun p hp => N2 p (.tail _ hp)) ?_ ?hk
        case K => assumption
        case hk => rfl
        intro h8 t8 R8 U8
        exact hret _ t8 _ g' h8 _ FG' U8 R8
      · exfalso
        have e : nCont x (cols - 5 - 1) ≤ k := nCont_lt hw (hk2 ▸ (by assumption))
        omega

theorem reg55 : True := by
  k_with "noteFrame ref" => (k_here; (rename RaisedS _ _ _ _ _ _ _ _ _ => rkX); (with_reducible show wpAny _ _ (noteFrame _ _) (fun _ s₂ => wpAny _ _ (setFlight _ none) (fun _ s₃ => wpAny _ _ (handleBy _ _ (ExceptHandler.ExceptHandler (some (Expr.Name _ _)) none _ _ :: _)) _ _ s₃) _ s₂) _ _); k_dflt (refine' caught_SO0 rkX ?F ?K ?U ?X ?T ?D KtsTurn.refl ?ex ?q ?_; (case F => assumption); (case K => assumption); (case U => assumption); (case X => assumption); (case T => assumption); (case D => assumption); (case ex => k_is); (case q => kts_isx); k_whole); intro hZ gZ n₂Z TZ FZ N₂Z GZ NZ BZ XZ PZ DZ; (try k_sweep))
  k_with "call ref" => (k_here; (with_reducible show wpAny _ _ (call (Value.ref 60) [Value.int _ _, Value.str _ _, Value.ref _]) _ _ _); k_dflt (refine' Mine.rows_raise ?B ?F ?X ?T ?hk ?N ?hlim ?hsl ?hl0 ?hl1 ?hx ?hc ?hcn ?hfit ?d ?u ?_; (case B => k_asm); (case F => k_asm); (case X => k_asm); (case T => k_asm); (case hk => first | exact rfl | assumption); (case N => k_asm); (case d => ktr_room); (case u => ktr_units); (case hlim => assumption); (case hsl => (first | assumption | (intro pZ hpZ; simp [hpZ]))); (case hl0 => omega); (case hl1 => omega); (case hx => omega); (case hc => omega); (case hcn => omega); (case hfit => omega)); intro e9Z t9Z vs9Z g9Z h9Z tk9Z Fg9Z U9Z R9Z; (try dsimp only at U9Z R9Z); (try dsimp only))
  trivial
set_option maxHeartbeats 4000000 in
theorem refused_c {w : World} {mean : ExcName → Option Value} {mg mb : Str → Option Value} {dp un : Nat} {gd : Option (List Code)} {cn : Str} {cs : Scope} {a : Addr} {ccd : Value} {cl : List (Str × Addr)} {outer : List Env} {A₀ : Around} {base h₀ : Heap} {L : Addr} {m : Str → Option Value} {s : Shared} {Q E : Value → Shared → Prop} {label : Int} {tl tx : Tok} {x : Str} {v : Addr} {cont cols : Int} {news nl : List (Addr × Obj)} (ho : outer = []) (hcl : cl = [])
    (B : Below A₀ base outer h₀) (F : Fr h₀ L s.heap m) (X : (K0 w.params).In h₀) (T : Top V0 (looseW V0 []) mean mg mb h₀) (hk : cs.kind = .function) (XB : (K0 w.params).In base) (TB : Top V0 (looseW V0 []) mean mg mb base) (N : News h₀ L s.heap news) (hlim : IsLim w nl (.ref v) cont cols) (hsl : ∀ p ∈ nl, p ∈ news) (hl0 : 0 ≤ label) (hl1 : label < 100000) (hx : x.length ≤ 1000) (hc : 8 ≤ cols ∧ cols ≤ 60) (hcn : 0 ≤ cont ∧ cont ≤ 1000) (hfit : cont < (nCont x (cols - 5 - 1) : Int)) (hd' : dp + 11 < recursionLimit) (hu : un + 100 < cLine)
    (hret : ∀ h' tk', Fr h₀ L h' m → News h₀ L h' news → Q (.bool true) { s with heap := h', toks := tk' }) :
    wpAny (model PySem.Challenge.rw_no0235_01.row.prog w) (ktrTop dp un gd cn cs L a ccd cl outer) (call (.ref 215) [.int label tl, .str x tx, .ref v]) Q E s := by
  subst ho hcl
  revert X; k_fill; intro X; w_top off
  refine wpAny_call ?_
  k_dflt (refine' code_defS0 (binds := [(Str.ofString "label", .int label tl), (Str.ofString "text", .str x tx), (Str.ofString "limits", .ref v)]) ?k1 ?k2 ?k3 ?k4 ?k5 ?kA ?k6 ?k7 ?k8 ?k9 ?kB ?_ ?cK ?c2 ?c3 ?c4 ?c5; (case kA => exact rfl); (case cK => first | exact rfl | assumption); (case k1 => k_asm); (case k2 => k_asm); (case k3 => k_asm); (case k4 => k_asm); (case k5 => k_asm); (case k6 => k_is); (case k7 => k_is); (case k8 => ktr_room); (case k9 => exact BindsTo.of_eq (by with_unfolding_all rfl)); (case c5 => decide); (case kB => exact locs rfl); (case c2 => exact rfl); (case c3 => exact rfl); (case c4 => exact rfl); k_whole; intro g' L' h' FG' F' N' B' X' T' D'; (try dsimp only); (try k_lift B'); (try k_fold))
  k_steps
  exact hret _ _ (by k_asm) (by k_asm)

theorem reg57 : True := by
  k_with "call ref" => (k_here; (with_reducible show wpAny _ _ (call (Value.ref 215) [Value.int _ _, Value.str _ _, Value.ref _]) _ _ _); k_dflt (refine' Mine.refused_c (cl := []) (outer := []) rfl rfl ?B ?F ?X ?T ?hk ?XB ?TB ?N ?hlim ?hsl ?hl0 ?hl1 ?hx ?hc ?hcn ?hfit ?d ?u ?_; (case B => k_asm); (case F => k_asm); (case X => k_asm); (case T => k_asm); (case hk => first | exact rfl | assumption); (case N => k_asm); (case d => ktr_room); (case u => ktr_units); (case XB => assumption); (case TB => assumption); (case hlim => assumption); (case hsl => (first | assumption | (intro pZ hpZ; simp [hpZ]))); (case hl0 => omega); (case hl1 => omega); (case hx => omega); (case hc => omega); (case hcn => omega); (case hfit => omega)); intro h9Z tk9Z F9Z N9Z; (try dsimp only); (try k_sweep); (try k_fold))
  trivial
section
open PySem.Builtin PySem.Builtin.Str
/-- a text, by its signs -/
abbrev M (l : List Nat) : Str := ⟨l.toArray⟩
theorem M_of (x : Str) : x = M x.cps.toList := rfl
theorem M_app (a b : List Nat) : M a ++ M b = M (a ++ b) := str_app a b
theorem M_len (l : List Nat) : (M l).length = l.length := by simp [PySem.Str.length]
theorem M_list (l : List Nat) : (M l).cps.toList = l := rfl
theorem M_inj {a b : List Nat} (h : M a = M b) : a = b := by
  have := congrArg (fun x : Str => x.cps.toList) h
  simpa using this
theorem M_eq {x : Str} {l : List Nat} (h : x.cps.toList = l) : x = M l := by subst h; rfl
theorem blanks (n : Int) : Txt.mul " " n = M (List.replicate n.toNat 32) := by
  rw [show (" " : Str) = ⟨#[32]⟩ by decide +kernel]
  exact M_eq (mul_one_list 32 n)
theorem sl_to (l : List Nat) (k : Nat) : Txt.slice (M l) none (some (k : Int)) = M (l.take k) := by
  by_cases h : k ≤ l.length
  · have e := StrLaws.sliceText_to (x := M l) (j := (k : Int)) ⟨by omega, by rw [M_list]; omega⟩
    refine Eq.trans (show Txt.slice (M l) none (some (k : Int)) = StrLaws.sliceText (M l) none (some (k : Int)) from rfl) (e.trans ?_)
    simp
  · have e0 : Txt.slice (M l) none (some (k : Int)) = Txt.slice (M l) none (some (l.length : Int)) := by
      show StrLaws.sliceText (M l) none (some (k : Int)) = StrLaws.sliceText (M l) none (some (l.length : Int))
      unfold StrLaws.sliceText
      rw [M_len, StrLaws.sliceIdx_none_lo, StrLaws.sliceIdx_none_lo (some (l.length : Int))]
      have : strSliceIndices (some 0) (some (k : Int)) 1 l.length = strSliceIndices (some 0) (some (l.length : Int)) 1 l.length := by
        have a1 : ¬ ((k : Int) < 0) := by omega
        have a2 : ¬ ((l.length : Int) < 0) := by omega
        have a3 : max (0 : Int) (min (k : Int) (l.length : Int)) = l.length := by omega
        simp [strSliceIndices, a1, a2, show min (k : Int) (l.length : Int) = (l.length : Int) by omega]
      rw [this]
    rw [e0]
    have e := StrLaws.sliceText_to (x := M l) (j := (l.length : Int)) ⟨by omega, by rw [M_list]; omega⟩
    refine Eq.trans (show Txt.slice (M l) none (some (l.length : Int)) = StrLaws.sliceText (M l) none (some (l.length : Int)) from rfl) (e.trans ?_)
    simp [List.take_of_length_le (show l.length ≤ k by omega)]
theorem sl_from (l : List Nat) (k : Nat) (h : k ≤ l.length) : Txt.slice (M l) (some (k : Int)) none = M (l.drop k) := by
  have e := StrLaws.sliceText_from (x := M l) (i := (k : Int)) ⟨by omega, by rw [M_list]; omega⟩
  refine Eq.trans (show Txt.slice (M l) (some (k : Int)) none = StrLaws.sliceText (M l) (some (k : Int)) none from rfl) (e.trans ?_)
  rw [M_list, Int.toNat_natCast, show ((l.length : Int) - (k : Int)).toNat = (l.drop k).length by rw [List.length_drop]; omega, List.take_length]
theorem sl_mid (l : List Nat) (a b : Nat) (ha : a ≤ b) (h : a ≤ l.length) : Txt.slice (M l) (some (a : Int)) (some (b : Int)) = M ((l.drop a).take (b - a)) := by
  by_cases hb : b ≤ l.length
  · have e := StrLaws.sliceText_nat (M l) ha (by rw [M_len]; exact hb)
    exact Eq.trans (show Txt.slice (M l) (some (a : Int)) (some (b : Int)) = StrLaws.sliceText (M l) (some (a : Int)) (some (b : Int)) from rfl) e
  · have e0 : Txt.slice (M l) (some (a : Int)) (some (b : Int)) = Txt.slice (M l) (some (a : Int)) none := by
      show StrLaws.sliceText (M l) (some (a : Int)) (some (b : Int)) = StrLaws.sliceText (M l) (some (a : Int)) none
      unfold StrLaws.sliceText
      rw [M_len, StrLaws.sliceIdx_none_hi]
      have : strSliceIndices (some (a : Int)) (some (b : Int)) 1 l.length = strSliceIndices (some (a : Int)) (some (l.length : Int)) 1 l.length := by
        have a1 : ¬ ((b : Int) < 0) := by omega
        have a2 : ¬ ((l.length : Int) < 0) := by omega
        simp [strSliceIndices, a1, a2, show min (b : Int) (l.length : Int) = (l.length : Int) by omega]
      rw [this]
    rw [e0, sl_from l a h, List.take_of_length_le (by rw [List.length_drop]; omega)]
theorem it_at (l : List Nat) (k c : Nat) (h : l[k]? = some c) : Txt.item (M l) (k : Int) = M [c] := by
  have hk : k < l.length := (List.getElem?_eq_some_iff.mp h).1
  have e : seqIndex? (k : Int) (M l).length = some k := by
    rw [StrLaws.seqIndex_nonneg (by omega) (by rw [M_len]; omega), Int.toNat_natCast]
  unfold Txt.item Txt.charAt
  rw [e]
  show (⟨#[((M l).cps[k]?).getD 0]⟩ : Str) = _
  have : (M l).cps[k]? = some c := by simpa using h
  rw [this]; rfl
/-- the lists that are joined again -/
def cat (c : Nat) : List (List Nat) → List Nat
  | [] => []
  | [x] => x
  | x :: y :: r => x ++ c :: cat c (y :: r)
theorem join_cat (c : Nat) : ∀ ls : List (List Nat), Str.join ⟨#[c]⟩ (ls.map M) = M (cat c ls)
  | [] => rfl
  | [x] => rfl
  | x :: y :: r => by
    show M x ++ ⟨#[c]⟩ ++ Str.join ⟨#[c]⟩ ((y :: r).map M) = _
    rw [join_cat c (y :: r)]
    show M x ++ M [c] ++ _ = _
    rw [M_app, M_app, List.append_assoc]; rfl
theorem join_cat0 : ∀ ls : List (List Nat), Str.join ⟨#[]⟩ (ls.map M) = M ls.flatten
  | [] => rfl
  | [x] => by simp [Str.join]
  | x :: y :: r => by
    show M x ++ ⟨#[]⟩ ++ Str.join ⟨#[]⟩ ((y :: r).map M) = _
    rw [join_cat0 (y :: r)]
    show M x ++ M [] ++ _ = _
    rw [M_app, M_app, List.append_nil]; rfl
theorem cut_uniq {c : Nat} : ∀ {a a' b b' : List Nat}, c ∉ a → c ∉ a' → a ++ c :: b = a' ++ c :: b' → a = a' ∧ b = b'
  | [], [], b, b', _, _, h => ⟨rfl, by simpa using h⟩
  | [], x :: a', b, b', _, h2, h => by
    simp only [List.nil_append, List.cons_append, List.cons.injEq] at h
    exact absurd (h.1 ▸ List.mem_cons_self) h2
  | x :: a, [], b, b', h1, _, h => by
    simp only [List.nil_append, List.cons_append, List.cons.injEq] at h
    exact absurd (h.1 ▸ List.mem_cons_self) h1
  | x :: a, y :: a', b, b', h1, h2, h => by
    simp only [List.cons_append, List.cons.injEq] at h
    obtain ⟨e1, e2⟩ := cut_uniq (fun q => h1 (.tail _ q)) (fun q => h2 (.tail _ q)) h.2
    exact ⟨by rw [h.1, e1], e2⟩
theorem cat_uniq {c : Nat} : ∀ {ls ls' : List (List Nat)}, ls ≠ [] → ls' ≠ [] → (∀ l ∈ ls, c ∉ l) → (∀ l ∈ ls', c ∉ l) → cat c ls = cat c ls' → ls = ls'
  | [], _, h, _, _, _, _ => absurd rfl h
  | _, [], _, h, _, _, _ => absurd rfl h
  | [x], [y], _, _, _, _, h => by rw [show x = y from h]
  | [x], y :: z :: r, _, _, h1, _, h => by
    have h : x = y ++ c :: cat c (z :: r) := h
    exact absurd (h ▸ List.mem_append_right _ List.mem_cons_self) (h1 x (.head _))
  | x :: w :: r, [y], _, _, _, h2, h => by
    have h : x ++ c :: cat c (w :: r) = y := h
    exact absurd (h ▸ List.mem_append_right _ List.mem_cons_self) (h2 y (.head _))
  | x :: w :: r, y :: z :: r', _, _, h1, h2, h => by
    have h : x ++ c :: cat c (w :: r) = y ++ c :: cat c (z :: r') := h
    obtain ⟨e1, e2⟩ := cut_uniq (h1 x (.head _)) (h2 y (.head _)) h
    rw [e1, cat_uniq (ls := w :: r) (ls' := z :: r') (by simp) (by simp) (fun l hl => h1 l (.tail _ hl)) (fun l hl => h2 l (.tail _ hl)) e2]
theorem map_M (ys : List Str) : ys = (ys.map fun y => y.cps.toList).map M := by
  rw [List.map_map]
  exact (List.map_id' ys).symm
/-- rows without the sign, joined by it, are cut at it again -/
theorem split_join {c : Nat} {ls : List (List Nat)} (hne : ls ≠ []) (hf : ∀ l ∈ ls, c ∉ l) : Txt.split (M (cat c ls)) ⟨#[c]⟩ = ls.map M := by
  have h1 := StrLaws.join_split (M (cat c ls)) ⟨#[c]⟩
  have h2 := StrLaws.split_free (M (cat c ls)) c
  generalize hS : Txt.split (M (cat c ls)) ⟨#[c]⟩ = S at h1 h2
  rw [map_M S, join_cat] at h1
  have h3 := M_inj h1
  have hSn : S.map (fun y => y.cps.toList) ≠ [] := by
    intro e
    have := (fact_split (M (cat c ls)) ⟨#[c]⟩).1
    rw [hS] at this
    have e2 := congrArg List.length e
    rw [List.length_map, List.length_nil] at e2
    omega
  have := cat_uniq hSn hne (fun l hl => by obtain ⟨p, hp, rfl⟩ := List.mem_map.mp hl; exact h2 p hp) hf h3
  rw [map_M S, this]
theorem cat_filter {c : Nat} : ∀ {ls : List (List Nat)}, (∀ l ∈ ls, c ∉ l) → (cat c ls).filter (fun k => k != c) = ls.flatten
  | [], _ => rfl
  | [x], h => by
    show x.filter _ = _
    rw [List.flatten_cons, List.flatten_nil, List.append_nil, List.filter_eq_self]
    intro k hk
    simp only [bne_iff_ne, ne_eq]
    rintro rfl
    exact h x (.head _) hk
  | x :: y :: r, h => by
    have ih := cat_filter (ls := y :: r) fun l hl => h l (.tail _ hl)
    show (x ++ c :: cat c (y :: r)).filter _ = _
    rw [List.filter_append, List.filter_cons_of_neg (by simp), ih, List.flatten_cons]
    congr 1
    rw [List.filter_eq_self]
    intro k hk
    simp only [bne_iff_ne, ne_eq]
    rintro rfl
    exact h x (.head _) hk
theorem rep (l : List Nat) : Txt.replace (M l) " " "" = M (l.filter fun k => k != 32) := by
  rw [show (" " : Str) = ⟨#[32]⟩ by decide +kernel, show ("" : Str) = ⟨#[]⟩ by decide +kernel, StrLaws.replace_one]
  have h1 := StrLaws.join_split (M l) ⟨#[32]⟩
  have h2 := StrLaws.split_free (M l) 32
  generalize Txt.split (M l) ⟨#[32]⟩ = S at h1 h2 ⊢
  rw [map_M S] at h1 ⊢
  rw [join_cat] at h1
  rw [join_cat0, ← M_inj h1, cat_filter]
  intro l hl
  obtain ⟨p, hp, rfl⟩ := List.mem_map.mp hl
  exact h2 p hp
theorem drop_rev_take (p : Nat → Bool) (l : List Nat) : l.take (l.length - (l.reverse.takeWhile p).length) = (l.reverse.dropWhile p).reverse := by
  have h := List.takeWhile_append_dropWhile (p := p) (l := l.reverse)
  have h2 := congrArg List.reverse h
  rw [List.reverse_append, List.reverse_reverse] at h2
  have h3 := congrArg List.length h2
  rw [List.length_append, List.length_reverse, List.length_reverse] at h3
  have h4 : l.length - (l.reverse.takeWhile p).length = (l.reverse.dropWhile p).reverse.length := by rw [List.length_reverse]; omega
  rw [h4]
  exact Eq.trans (congrArg (List.take _) h2.symm) (List.take_left' rfl)
theorem rstrip (l : List Nat) : Txt.rstripChars (M l) " " = M (l.reverse.dropWhile fun k => k == 32).reverse := by
  have hg : (" " : Str).cps.contains = fun k => k == 32 := by
    funext k
    rw [show (" " : Str) = ⟨#[32]⟩ by decide +kernel]
    rw [Bool.eq_iff_iff]; simp
  show Txt.stripBy (" " : Str).cps.contains false true (M l) = _
  rw [hg, W.stripBy_eq]
  unfold W.stripped
  simp only [Bool.false_eq_true, if_false, if_true, List.drop_zero, M_list, M_len]
  refine M_eq ?_
  rw [StrLaws.strSub_toList, M_list, List.drop_zero, Nat.sub_zero, drop_rev_take]
theorem rstrip_blanks (l : List Nat) (c n : Nat) (hc : c ≠ 32) : Txt.rstripChars (M (l ++ [c] ++ List.replicate n 32)) " " = M (l ++ [c]) := by
  rw [rstrip]
  congr 1
  rw [List.reverse_append, List.reverse_replicate, List.dropWhile_append_of_pos (by intro k hk; rw [(List.mem_replicate.mp hk).2]; rfl), List.reverse_append]
  simp [hc]
theorem ljust_list (l : List Nat) (k : Nat) : Txt.ljust (M l) (k : Int) = M (l ++ List.replicate (k - l.length) 32) := by
  unfold Txt.ljust
  rw [M_len]
  split
  · rw [show k - l.length = 0 by omega]; simp
  · unfold padded
    rw [Int.toNat_natCast]
    refine M_eq ?_
    simp
end

section
open PySem.Builtin PySem.Builtin.Str
def dgl (label : Int) : List Nat := if 0 < label then (Nat.toDigits 10 label.toNat).map Char.toNat else []
theorem valD_digits (m : Nat) : valD ((Nat.toDigits 10 m).map Char.toNat) 0 = m := by
  induction m using Nat.strongRecOn with
  | _ m ih =>
    by_cases h : m < 10
    · rw [Nat.toDigits_of_lt_base h]
      have e : ∀ d : Nat, d < 10 → (Nat.digitChar d).toNat = d + 48 := by decide
      show (0 : Int) * 10 + (((Nat.digitChar m).toNat : Int) - 48) = m
      rw [e m h]; omega
    · have hm : m % 10 < 10 := Nat.mod_lt m (by decide)
      have t : Nat.toDigits 10 (m / 10) ++ Nat.toDigits 10 (m % 10) = Nat.toDigits 10 (10 * (m / 10) + m % 10) := Nat.toDigits_append_toDigits (by decide) (by omega) hm
      rw [Nat.div_add_mod] at t
      have e : ∀ d : Nat, d < 10 → (Nat.digitChar d).toNat = d + 48 := by decide
      rw [← t, List.map_append, Nat.toDigits_of_lt_base hm]
      show valD ((Nat.toDigits 10 (m / 10)).map Char.toNat ++ [(Nat.digitChar (m % 10)).toNat]) 0 = m
      rw [valD_append, ih (m / 10) (by omega), e _ hm]
      omega
theorem dgl_range {label : Int} : ∀ c ∈ dgl label, 48 ≤ c ∧ c ≤ 57 := by
  intro c hc
  unfold dgl at hc
  split at hc
  · obtain ⟨ch, hch, rfl⟩ := List.mem_map.mp hc
    have := Nat.isDigit_of_mem_toDigits (by decide) (by decide) hch
    simp [Char.isDigit] at this
    exact ⟨UInt32.le_iff_toNat_le.mp this.1, UInt32.le_iff_toNat_le.mp this.2⟩
  · cases hc
theorem dgl_len {label : Int} (h : label < 100000) : (dgl label).length ≤ 5 := by
  unfold dgl
  split
  · rw [List.length_map]
    exact toDigits_len_pow (b := 10) (k := 5) (by decide) (by decide) (by omega)
  · simp
theorem dgl_val {label : Int} (h : 0 ≤ label) : valD (dgl label) 0 = label := by
  unfold dgl
  split
  · rw [valD_digits]; omega
  · show (0 : Int) = label; omega
theorem dgl_str {label : Int} (h : 0 < label) : Str.ofString (toString label) = M (dgl label) := by
  obtain ⟨n, rfl⟩ := Int.eq_ofNat_of_zero_le (Int.le_of_lt h)
  unfold dgl
  rw [if_pos h]
  exact M_eq (KIN.signs_num n)
theorem dgl_zero {label : Int} (h : ¬ 0 < label) : dgl label = [] := by unfold dgl; rw [if_neg h]
def headL (label : Int) : List Nat := dgl label ++ List.replicate (6 - (dgl label).length) 32
theorem headS_list {label : Int} : headS label = M (headL label) := by
  unfold headS headL
  split
  · rename_i h
    rw [dgl_str h, blanks, M_len, M_app]
    congr 3
    omega
  · rename_i h
    rw [dgl_zero h]
    decide +kernel
theorem headL_len {label : Int} (h : label < 100000) : (headL label).length = 6 := by
  have := dgl_len h
  unfold headL
  rw [List.length_append, List.length_replicate]; omega
def chunk (W : Nat) (t : List Nat) (i : Nat) : List Nat := (t.drop (i * W)).take W
theorem chunk_cat (W : Nat) (t : List Nat) (i : Nat) : t.take (i * W) ++ chunk W t i = t.take ((i + 1) * W) := by
  unfold chunk
  rw [Nat.add_mul, Nat.one_mul, List.take_add]
/-- the rows: columns 1 to 6, and what stands behind -/
def preL (label : Int) (i : Nat) : List Nat := if i = 0 then headL label else [32, 32, 32, 32, 32, 43]
def rowL (label : Int) (t : List Nat) (W i : Nat) : List Nat := preL label i ++ chunk W t i
theorem preL_len {label : Int} (h : label < 100000) (i : Nat) : (preL label i).length = 6 := by
  unfold preL
  split
  · exact headL_len h
  · rfl
theorem row0_list (label : Int) (t : List Nat) (W : Nat) : row0 label (M t) (W : Int) = M (rowL label t W 0) := by
  unfold row0 rowL chunk preL
  rw [headS_list, sl_to, M_app]
  simp
theorem contRow_list (label : Int) (t : List Nat) (W i : Nat) (h : (i + 1) * W ≤ t.length) : contRow (M t) (W : Int) (((i : Int) + 1) * W) = M (rowL label t W (i + 1)) := by
  unfold contRow rowL chunk preL
  rw [if_neg (by omega), blanks, show ("+" : Str) = M [43] by decide +kernel]
  have e1 : ((i : Int) + 1) * W = (((i + 1) * W : Nat) : Int) := by push_cast; rfl
  have e2 : ((i : Int) + 1) * W + W = (((i + 1) * W + W : Nat) : Int) := by push_cast; rfl
  rw [e2, e1, sl_mid _ _ _ (by omega) h, M_app, M_app]
  congr 2
  rw [Nat.add_sub_cancel_left]
/-- all rows but the first -/
def nC (t : List Nat) (W : Nat) : Nat := (t.length - 1) / W
theorem nC_mul {t : List Nat} {W i : Nat} (hW : 0 < W) (h : i < nC t W) : (i + 1) * W < t.length := by
  have h1 : (i + 1) * W ≤ t.length - 1 := (Nat.le_div_iff_mul_le hW).mp h
  have h2 : 0 < (i + 1) * W := Nat.mul_pos (by omega) hW
  omega
theorem nC_top {t : List Nat} {W : Nat} (hW : 0 < W) : t.length ≤ (nC t W + 1) * W := by
  have h1 : (t.length - 1) / W < nC t W + 1 := Nat.lt_succ_self _
  have h2 := (Nat.div_lt_iff_lt_mul hW).mp h1
  omega
theorem nCont_list (t : List Nat) (W : Nat) : nCont (M t) (W : Int) = nC t W := by
  unfold nCont nC
  rw [M_len, Int.toNat_natCast]
theorem rowsOf_list (label : Int) (t : List Nat) (W : Nat) (hW : 0 < W) : rowsOf label (M t) (W : Int) = (List.range (nC t W + 1)).map fun i => M (rowL label t W i) := by
  unfold rowsOf contRows
  rw [nCont_list, row0_list, List.range_succ_eq_map, List.map_cons, List.map_map]
  congr 1
  refine List.map_congr_left fun i hi => ?_
  exact contRow_list label t W i (Nat.le_of_lt (nC_mul hW (List.mem_range.mp hi)))
theorem chunk_len_le (W : Nat) (t : List Nat) (i : Nat) : (chunk W t i).length ≤ W := by
  unfold chunk; rw [List.length_take]; omega
theorem chunk_len {W : Nat} {t : List Nat} {i : Nat} (hW : 0 < W) (h : i < nC t W) : (chunk W t i).length = W := by
  have := nC_mul hW h
  rw [Nat.add_mul] at this
  unfold chunk; rw [List.length_take, List.length_drop]; omega
theorem wid {cols : Int} (hc : 8 ≤ cols ∧ cols ≤ 60) : ∃ W : Nat, 2 ≤ W ∧ W ≤ 54 ∧ cols - 5 - 1 = (W : Int) ∧ cols = (W : Int) + 6 := ⟨(cols - 6).toNat, by omega, by omega, by omega, by omega⟩
theorem row_facts {label : Int} {x : Str} {cols : Int} {i : Nat} {r : Str} (hl0 : 0 ≤ label) (hl1 : label < 100000) (hx1 : 1 ≤ x.length) (hc : 8 ≤ cols ∧ cols ≤ 60) (hr : (rowsOf label x (cols - 5 - 1))[i]? = some r) :
    6 ≤ r.length ∧ (r.length : Int) ≤ cols ∧ (i = 0 → 0 < label → Txt.slice r none (some 6) = Txt.ljust (Str.ofString (toString label)) 6) ∧ (i = 0 → ¬ 0 < label → Txt.slice r none (some 6) = "      ") ∧
      (i ≠ 0 → Txt.slice r none (some 5) = "     " ∧ Txt.item r 5 = "+") ∧ (i < nCont x (cols - 5 - 1) → (r.length : Int) = cols) := by
  obtain ⟨W, hW2, hW3, e1, e2⟩ := wid hc
  obtain ⟨t, rfl⟩ : ∃ t, x = M t := ⟨_, M_of x⟩
  rw [e1, rowsOf_list label t W (by omega), List.getElem?_map] at hr
  rw [e1, nCont_list]
  obtain ⟨j, hj, rfl⟩ := Option.map_eq_some_iff.mp hr
  obtain ⟨hij, hj2⟩ := List.getElem?_eq_some_iff.mp hj
  rw [List.getElem_range] at hj2
  subst hj2
  have h6 := preL_len hl1 i
  have hcl := chunk_len_le W t i
  have hlen : (M (rowL label t W i)).length = 6 + (chunk W t i).length := by rw [M_len]; unfold rowL; rw [List.length_append, h6]
  have hs6 : Txt.slice (M (rowL label t W i)) none (some 6) = M (preL label i) := by
    have := sl_to (rowL label t W i) 6
    rw [show ((6 : Nat) : Int) = 6 from rfl] at this
    rw [this]
    unfold rowL
    rw [List.take_left' h6]
  refine ⟨by omega, by omega, ?_, ?_, ?_, ?_⟩
  · rintro rfl h
    have := ljust_list (dgl label) 6
    rw [show ((6 : Nat) : Int) = 6 from rfl] at this
    rw [hs6, dgl_str h, this]; rfl
  · rintro rfl h
    rw [hs6]
    unfold preL headL
    rw [if_pos rfl, dgl_zero h]
    decide +kernel
  · intro h
    have hp : preL label i = [32, 32, 32, 32, 32, 43] := by unfold preL; rw [if_neg h]
    refine ⟨?_, ?_⟩
    · have := sl_to (rowL label t W i) 5
      rw [show ((5 : Nat) : Int) = 5 from rfl] at this
      rw [this]
      unfold rowL
      rw [hp]
      show M [32, 32, 32, 32, 32] = _
      decide +kernel
    · have := it_at (rowL label t W i) 5 43 (by unfold rowL; rw [hp]; rfl)
      rw [show ((5 : Nat) : Int) = 5 from rfl] at this
      rw [this]
      decide +kernel
  · intro h
    have := chunk_len (by omega) h
    omega
def bodyUp (rs : List Str) : Nat → Str
  | 0 => ""
  | i + 1 => bodyUp rs i ++ Txt.slice (rs[i]?.getD "") (some 6) none
theorem body_up {label : Int} {t : List Nat} {W : Nat} (hl1 : label < 100000) (hW : 0 < W) : ∀ k, k ≤ nC t W + 1 → bodyUp (rowsOf label (M t) (W : Int)) k = M (t.take (k * W))
  | 0, _ => by
    rw [Nat.zero_mul]
    show ("" : Str) = M []
    decide +kernel
  | k + 1, h => by
    show bodyUp _ k ++ _ = _
    rw [body_up hl1 hW k (by omega), rowsOf_list label t W hW, List.getElem?_map, List.getElem?_range (by omega), Option.map_some, Option.getD_some]
    have h6 := preL_len hl1 k
    have := sl_from (rowL label t W k) 6 (by unfold rowL; rw [List.length_append]; omega)
    rw [show ((6 : Nat) : Int) = 6 from rfl] at this
    rw [this]
    unfold rowL
    rw [List.drop_left' h6, M_app, chunk_cat]
theorem body_all {label : Int} {x : Str} {cols : Int} (hl0 : 0 ≤ label) (hl1 : label < 100000) (hx1 : 1 ≤ x.length) (hc : 8 ≤ cols ∧ cols ≤ 60) : bodyUp (rowsOf label x (cols - 5 - 1)) (nCont x (cols - 5 - 1) + 1) = x := by
  obtain ⟨W, hW2, hW3, e1, e2⟩ := wid hc
  obtain ⟨t, rfl⟩ : ∃ t, x = M t := ⟨_, M_of x⟩
  rw [e1, nCont_list, body_up hl1 (by omega) _ (Nat.le_refl _), List.take_of_length_le (nC_top (by omega))]
theorem body_len {label : Int} {x : Str} {cols : Int} (hl0 : 0 ≤ label) (hl1 : label < 100000) (hx1 : 1 ≤ x.length) (hc : 8 ≤ cols ∧ cols ≤ 60) : ∀ (i : Nat), (bodyUp (rowsOf label x (cols - 5 - 1)) i).length ≤ i * 60
  | 0 => by
    show PySem.Str.length "" ≤ _
    rw [show PySem.Str.length "" = 0 by decide +kernel]
    exact Nat.zero_le _
  | i + 1 => by
    have ih := body_len hl0 hl1 hx1 hc i
    show (bodyUp _ i ++ _).length ≤ _
    rw [PySem.Str.length_append]
    have h1 := Txt.slice_le ((rowsOf label x (cols - 5 - 1))[i]?.getD "") (some 6) none
    have h2 : ((rowsOf label x (cols - 5 - 1))[i]?.getD "").length ≤ 60 := by
      cases h : (rowsOf label x (cols - 5 - 1))[i]? with
      | none => rw [Option.getD_none, show PySem.Str.length "" = 0 by decide +kernel]; omega
      | some r =>
        have := row_facts hl0 hl1 hx1 hc h
        rw [Option.getD_some]; omega
    omega
end

structure CutSt where
  b : Str
  t : Tok
theorem cut_len {x : Str} {cols : Int} (hx1 : 1 ≤ x.length) (hc : 8 ≤ cols ∧ cols ≤ 60) : ((nCont x (cols - 5 - 1) + 1 : Nat) : Int) = ((x.length : Int) + (cols - 6) - 1).fdiv (cols - 6) := by
  obtain ⟨W, hW⟩ : ∃ W : Nat, cols - 6 = (W : Int) := ⟨(cols - 6).toNat, by omega⟩
  have e : cols - 5 - 1 = (W : Int) := by omega
  have hw : 0 < W := by omega
  rw [hW, e, Int.fdiv_eq_ediv_of_nonneg _ (by omega)]
  unfold nCont
  rw [Int.toNat_natCast]
  have : ((x.length : Int) + W - 1) = ((x.length - 1 + W : Nat) : Int) := by omega
  rw [this, ← Int.natCast_ediv, Nat.add_div_right _ hw]
set_option maxHeartbeats 4000000 in
theorem cut_c {w : World} {mean : ExcName → Option Value} {mg mb : Str → Option Value} {dp un : Nat} {gd : Option (List Code)} {cn : Str} {cs : Scope} {a : Addr} {ccd : Value} {cl : List (Str × Addr)} {outer : List Env} {A₀ : Around} {base h₀ : Heap} {L : Addr} {m : Str → Option Value} {s : Shared} {Q E : Value → Shared → Prop} {label : Int} {tl tx tc : Tok} {x : Str} {l : Addr} {vs : List Value} {nn : Nat} {cols : Int} {news : List (Addr × Obj)}
    (B : Below A₀ base outer h₀) (F : Fr h₀ L s.heap m) (X : (K0 w.params).In h₀) (T : Top V0 (looseW V0 []) mean mg mb h₀) (hk : cs.kind = .function) (N : News h₀ L s.heap news) (hl : (l, listOf vs.toArray nn) ∈ news) (hS : StrsAre vs (rowsOf label x (cols - 5 - 1))) (hl0 : 0 ≤ label) (hl1 : label < 100000) (hx : x.length ≤ 1000) (hx1 : 1 ≤ x.length) (hc : 8 ≤ cols ∧ cols ≤ 60) (hd' : dp + 3 < recursionLimit) (hu : un + 32 < cLine)
    (hret : ∀ h' tk', Fr h₀ L h' m → News h₀ L h' news → Q (.bool true) { s with heap := h', toks := tk' }) :
    wpAny (model PySem.Challenge.rw_no0235_01.row.prog w) (ktrTop dp un gd cn cs L a ccd cl outer) (call (.ref 222) [.int label tl, .str x tx, .ref l, .int cols tc]) Q E s := by
  have hvl := hS.length
  have hrl : (rowsOf label x (cols - 5 - 1)).length = nCont x (cols - 5 - 1) + 1 := by unfold rowsOf; rw [List.length_cons, contRows_length]
  have hnc := nCont_le x (cols - 5 - 1)
  have hle := cut_len hx1 hc
  have hlq : (vs.length : Int) = ((x.length : Int) + (cols - 6) - 1).fdiv (cols - 6) := by rw [← hle]; omega
  revert X; k_fill; intro X; w_top off
  refine wpAny_call ?_
  k_dflt (refine' code_def (binds := [(Str.ofString "label", .int label tl), (Str.ofString "text", .str x tx), (Str.ofString "rows", .ref l), (Str.ofString "columns", .int cols tc)]) ?k1 ?k2 ?k3 ?k4 ?k5 ?kA ?kF ?kK ?k6 ?k7 ?k8 ?k9 ?kB ?_ ?c2 ?c3 ?c4 ?c5; (case kA => exact rfl); (case kF => exact rfl); (case kK => assumption); (case k1 => k_asm); (case k2 => k_asm); (case k3 => k_asm); (case k4 => k_asm); (case k5 => k_asm); (case k6 => k_is); (case k7 => k_is); (case k8 => ktr_room); (case k9 => exact BindsTo.of_eq (by with_unfolding_all rfl)); (case c5 => decide); (case kB => exact locs rfl); (case c2 => exact rfl); (case c3 => exact rfl); (case c4 => exact rfl); k_whole; intro g' L' h' FG' F' N' B' X' T'; (try dsimp only); (try k_lift B'); (try k_fold))
  k_steps
  · exact absurd hlq (by assumption)
  rename Fr _ _ _ _ => F1
  rename News _ _ _ _ => N1
  rename IsRange _ _ _ _ _ _ _ _ => hR
  refine' range0_M (σ := CutSt) [Str.ofString "at", Str.ofString "row"] (fun c => [(Str.ofString "body", .str c.b c.t)]) (fun _ => news)
    (fun i q => q.b = bodyUp (rowsOf label x (cols - 5 - 1)) i) (by with_unfolding_all rfl) hR (by omega) (by omega) F1 N1 ?start ?turn ?done ?hE
  case hE => passes_own
  case start => exact ⟨⟨"", _⟩, fun p hp => hp, List.forall_mem_cons.mpr ⟨rfl, List.forall_mem_nil _⟩, rfl⟩
  case turn =>
    intro i t' cZ2 u' h tk I oI hi htk hk0 hI F3 N3
    (try k_fold)
    obtain ⟨b, tb⟩ := cZ2
    dsimp only at hk0 F3 N3
    have hi' : i < vs.length := by omega
    obtain ⟨r, tr, hvr, hrr⟩ := hS.item i _ (List.getElem?_eq_getElem hi')
    have hv : vs[((i : Int)).toNat]? = some (.str r tr) := by rw [Int.toNat_natCast, List.getElem?_eq_getElem hi', hvr]
    obtain ⟨hr6, hrc, hA, hB, hC, hD⟩ := row_facts hl0 hl1 hx1 hc hrr
    have hbl : b.length ≤ 100000 := by
      have h1 := body_len hl0 hl1 hx1 hc (label := label) (x := x) i
      have h2 := congrArg PySem.Str.length hk0
      omega
    (try k_fold)
    k_steps
    all_goals first
      | (exfalso; omega)
      | (exfalso; rename ((_ != _) = true) => hq; rw [hA (by omega) (by assumption)] at hq; simp at hq; done)
      | (exfalso; rename ((_ != _) = true) => hq; rw [hB (by omega) (by assumption)] at hq; simp at hq; done)
      | (exfalso; rename ((_ != _) = true) => hq; rw [(hC (by omega)).1] at hq; simp at hq; done)
      | (rename Fr _ _ _ _ => F9
         rename News _ _ _ _ => N9
         refine EndM.intro ⟨_, _⟩ F9 N9 ⟨List.forall_mem_cons.mpr ⟨rfl, List.forall_mem_nil _⟩, ?_⟩ ?_ (List.forall_mem_cons.mpr ⟨.head _, List.forall_mem_nil _⟩) (fun p hp => .tail _ hp) (off_same hI)
         · (intro z h2 h3; simp only [List.forall_mem_cons, List.not_mem_nil, false_implies, implies_true, and_true, ne_eq] at h2; simp only [List.contains_cons, List.contains_nil, Bool.or_false, Bool.or_eq_false_iff, beq_eq_false_iff_ne, ne_eq] at h3; simp [kstB, List.contains_cons, h2, h3])
         · dsimp only
           rw [hk0]
           show _ = bodyUp (rowsOf label x (cols - 5 - 1)) i ++ _
           rw [hrr]; rfl)
      | (exfalso; rename (List.isEmpty _ = false) => hq; rw [(hC (by omega)).2] at hq; revert hq; decide +kernel)
  case done =>
    rintro ⟨b, tb⟩ u' h tk htk hk0 F3 N3
    dsimp only at hk0 F3 N3
    have e : ((vs.length : Int)).toNat = nCont x (cols - 5 - 1) + 1 := by omega
    rw [e, body_all hl0 hl1 hx1 hc] at hk0
    subst hk0
    (try k_fold)
    k_steps
    rename News h₀ L _ _ => N9
    have e2 : (b == b) = true := by simp
    rw [e2]
    exact hret _ _ (by k_asm) N9

theorem reg61 : True := by
  k_with "call ref" => (k_here; (with_reducible show wpAny _ _ (call (Value.ref 222) [Value.int _ _, Value.str _ _, Value.ref _, Value.int _ _]) _ _ _); k_dflt (refine' Mine.cut_c ?B ?F ?X ?T ?hk ?N ?hl ?hS ?h1 ?h2 ?h3 ?h4 ?h5 ?d ?u ?_; (case B => k_asm); (case F => k_asm); (case X => k_asm); (case T => k_asm); (case hk => first | exact rfl | assumption); (case N => k_asm); (case d => ktr_room); (case u => ktr_units); (case hl => k_mem); (case hS => assumption); (case h1 => omega); (case h2 => omega); (case h3 => omega); (case h4 => omega); (case h5 => omega)); intro h9Z tk9Z F9Z N9Z; (try dsimp only); (try k_sweep); (try k_fold))
  trivial
theorem sub_cons {a : Addr × Obj} {l l' : List (Addr × Obj)} (h : a ∈ l') (k : ∀ p ∈ l, p ∈ l') : ∀ p ∈ a :: l, p ∈ l' := fun p hp => by
  rcases List.mem_cons.mp hp with rfl | hp
  · exact h
  · exact k p hp
theorem off_cons {a : Addr × Obj} {l : List (Addr × Obj)} {x : Addr} (h : a.1 ≠ x) (k : ∀ p ∈ l, p.1 ≠ x) : ∀ p ∈ a :: l, p.1 ≠ x := fun p hp => by
  rcases List.mem_cons.mp hp with rfl | hp
  · exact h
  · exact k p hp
theorem off_nil {x : Addr} : ∀ p ∈ ([] : List (Addr × Obj)), p.1 ≠ x := fun _ h => nomatch h
theorem lab0 {a b : Int} (h0 : 0 ≤ a) (h1 : 0 ≤ b) : 0 ≤ a * b := Int.mul_nonneg h0 h1
theorem lab1 {a b : Int} (h0 : 0 ≤ a) (h1 : a < 100000) (h2 : 0 ≤ b) (h3 : b < 2) : a * b < 100000 := by
  obtain rfl | rfl : b = 0 ∨ b = 1 := by omega
  · rw [Int.mul_zero]; decide
  · rw [Int.mul_one]; exact h1
theorem nCont_nat {x : Str} {cols cont : Int} (hc : 8 ≤ cols) (h0 : 0 ≤ cont) : ∃ W C : Nat, 2 ≤ W ∧ cols - 5 - 1 = (W : Int) ∧ cols - 6 = (W : Int) ∧ cont = (C : Int) ∧ nCont x (cols - 5 - 1) = (x.length - 1) / W := by
  refine ⟨(cols - 6).toNat, cont.toNat, by omega, by omega, by omega, by omega, ?_⟩
  unfold nCont
  rw [show cols - 5 - 1 = cols - 6 by omega]
theorem nCont_gt {x : Str} {cols cont : Int} (hc : 8 ≤ cols) (h0 : 0 ≤ cont) (h : (cols - 6) * (cont + 1) < x.length) : cont < (nCont x (cols - 5 - 1) : Int) := by
  obtain ⟨W, C, hW, e1, e2, rfl, e3⟩ := nCont_nat (x := x) hc h0
  rw [e3]
  rw [e2] at h
  have h' : W * (C + 1) < x.length := by exact_mod_cast h
  have : C + 1 ≤ (x.length - 1) / W := (Nat.le_div_iff_mul_le (by omega)).mpr (by rw [Nat.mul_comm]; omega)
  omega
theorem nCont_fit {x : Str} {cols cont : Int} (hc : 8 ≤ cols) (h0 : 0 ≤ cont) (h : ¬ (cols - 6) * (cont + 1) < x.length) : (nCont x (cols - 5 - 1) : Int) ≤ cont := by
  obtain ⟨W, C, hW, e1, e2, rfl, e3⟩ := nCont_nat (x := x) hc h0
  rw [e3]
  rw [e2] at h
  have h' : ¬ W * (C + 1) < x.length := by
    intro q; apply h; exact_mod_cast q
  have hp : 0 < W * (C + 1) := Nat.mul_pos (by omega) (by omega)
  have : (x.length - 1) / W < C + 1 := (Nat.div_lt_iff_lt_mul (by omega)).mpr (by rw [Nat.mul_comm]; omega)
  omega
theorem nCont_Y (w cont : Int) (h0 : 0 ≤ cont) : (nCont "Y" w : Int) ≤ cont := by
  have : nCont "Y" w = 0 := by
    unfold nCont
    rw [show PySem.Str.length "Y" - 1 = 0 by decide +kernel, Nat.zero_div]
  rw [this]; exact h0
theorem add_1 {prog : Program} {w : World} {A : Around} {E : Value → Shared → Prop} {s : Shared} {h₀ : Heap} {L : Addr} {m : Str → Option Value} {news : List (Addr × Obj)} {l b : Addr} {vs : List Value} {v : Value} {n k : Nat} {Q : Value → Shared → Prop}
    (F : Fr h₀ L s.heap m) (N : News h₀ L s.heap news) (hl : (l, listOf vs.toArray n) ∈ news) (hb : (b, listOf #[v] k) ∈ news) (hz : vs.length ≤ 1000000)
    (h : ∀ l' h', (∀ p ∈ news, p.1 < l') → Fr h₀ L h' m → News h₀ L h' ((l', listOf (vs ++ [v]).toArray 0) :: news) → Q (.ref l') { s with heap := h' }) :
    wpAny (model prog w) A (binaryOp .Add (.ref l) (.ref b)) Q E s :=
  add_L F N hl (ws := [v]) hb (by rw [List.length_singleton]; omega) h

theorem reg63 : True := by
  k_with "call ref" => (k_here; (with_reducible show wpAny _ _ (call (Value.ref 60) [Value.int _ _, Value.str _ _, _]) _ _ _); k_dflt (refine' Mine.rows_c ?B ?F ?X ?T ?hk ?N ?hl ?hs ?h1 ?h2 ?h3 ?h4 ?h5 ?h6 ?d ?u ?_; (case B => k_asm); (case F => k_asm); (case X => k_asm); (case T => k_asm); (case hk => first | exact rfl | assumption); (case N => k_asm); (case d => ktr_room); (case u => ktr_units); (case hl => assumption); (case hs => (first | assumption | exact Mine.sub_cons (by k_mem) (Mine.sub_cons (by k_mem) (fun _ h => nomatch h)))); (case h1 => (first | assumption | omega | exact Mine.lab0 (by assumption) (by assumption))); (case h2 => (first | assumption | omega | exact Mine.lab1 (by assumption) (by assumption) (by assumption) (by assumption))); (case h3 => (first | assumption | omega | decide +kernel)); (case h4 => omega); (case h5 => omega); (case h6 => first | assumption | omega | exact Mine.nCont_fit (by omega) (by omega) (by assumption) | exact Mine.nCont_Y _ _ (by omega))); intro l9Z vs9Z nn9Z h9Z tk9Z l1Z hS9Z F9Z N9Z; (have hL9Z := PyProof.Rows.StrsAre.length hS9Z); (have l1aZ := l1Z); (try k_lt l1Z); (try dsimp only); (try k_sweep); (try k_fold))
  k_with "call ref" => (k_here; (with_reducible show wpAny _ _ (call (Value.ref 215) [Value.int _ _, Value.str _ _, Value.ref _]) _ _ _); k_dflt (refine' Mine.refused_c (cl := []) (outer := []) rfl rfl ?B ?F ?X ?T ?hk ?XB ?TB ?N ?hlim ?hsl ?hl0 ?hl1 ?hx ?hc ?hcn ?hfit ?d ?u ?_; (case B => k_asm); (case F => k_asm); (case X => k_asm); (case T => k_asm); (case hk => first | exact rfl | assumption); (case N => k_asm); (case d => ktr_room); (case u => ktr_units); (case XB => assumption); (case TB => assumption); (case hlim => assumption); (case hsl => (first | assumption | exact Mine.sub_cons (by k_mem) (Mine.sub_cons (by k_mem) (fun _ h => nomatch h)))); (case hl0 => (first | assumption | omega | exact Mine.lab0 (by assumption) (by assumption))); (case hl1 => (first | assumption | omega | exact Mine.lab1 (by assumption) (by assumption) (by assumption) (by assumption))); (case hx => omega); (case hc => omega); (case hcn => omega); (case hfit => first | assumption | omega | exact Mine.nCont_gt (by omega) (by omega) (by assumption))); intro h9Z tk9Z F9Z N9Z; (try dsimp only); (try k_sweep); (try k_fold))
  k_with "call ref" => (k_here; (with_reducible show wpAny _ _ (call (Value.ref 222) [Value.int _ _, Value.str _ _, Value.ref _, Value.int _ _]) _ _ _); k_dflt (refine' Mine.cut_c ?B ?F ?X ?T ?hk ?N ?hl ?hS ?h1 ?h2 ?h3 ?h4 ?h5 ?d ?u ?_; (case B => k_asm); (case F => k_asm); (case X => k_asm); (case T => k_asm); (case hk => first | exact rfl | assumption); (case N => k_asm); (case d => ktr_room); (case u => ktr_units); (case hl => k_mem); (case hS => assumption); (case h1 => (first | assumption | omega | exact Mine.lab0 (by assumption) (by assumption))); (case h2 => (first | assumption | omega | exact Mine.lab1 (by assumption) (by assumption) (by assumption) (by assumption))); (case h3 => (first | assumption | omega | decide +kernel)); (case h4 => (first | assumption | omega | decide +kernel)); (case h5 => omega)); intro h9Z tk9Z F9Z N9Z; (try dsimp only); (try k_sweep); (try k_fold))
  k_with "binaryOp Add ref ref" => (k_here; (with_reducible show wpAny _ _ (binaryOp Operator.Add (Value.ref _) (Value.ref _)) _ _ _); k_dflt (refine' Mine.add_1 ?F ?N ?a ?b ?z ?_; (case F => k_asm); (case N => k_asm); (case a => k_mem); (case b => k_mem); (case z => omega); k_whole); intro l9Z h9Z l1Z F9Z N9Z; (have l1aZ := l1Z); (try k_lt l1Z); (try dsimp only); (try k_sweep); (try k_fold))
  trivial
/-- a row as it stands on its card -/
def padRow (cols : Int) (r : Str) : Str := r ++ Txt.mul " " (cols - r.length) ++ "SEQ1"
/-- the lines of one statement: its rows, and remarks behind a row -/
inductive Block (cols : Int) : List Str → List Str → Prop
  | nil : Block cols [] []
  | row {rs ls : List Str} (r : Str) : Block cols rs ls → Block cols (rs ++ [r]) (ls ++ [padRow cols r])
  | rem {rs ls : List Str} {r : Str} (x : Str) : Block cols (rs ++ [r]) ls → x ∈ remarks → Block cols (rs ++ [r]) (ls ++ [x])
def okText (x : Str) : Prop := IsText x ∨ x = "Y"
theorem okText.length {x : Str} (h : okText x) : 1 ≤ x.length ∧ x.length ≤ 160 := by
  rcases h with h | rfl
  · have := h.length; omega
  · decide
/-- all lines, and the statements that are wanted back -/
inductive Laid (cols cont : Int) : List Str → List (Int × Int × Str) → Prop
  | nil : Laid cols cont [] []
  | more {cs ls : List Str} {ws : List (Int × Int × Str)} {label : Int} {x : Str} : Laid cols cont cs ws → 0 ≤ label → label < 100000 → okText x → (nCont x (cols - 5 - 1) : Int) ≤ cont →
      Block cols (rowsOf label x (cols - 5 - 1)) ls → Laid cols cont (cs ++ ls) (ws ++ [((cs.length : Int) + 1, label, x)])
structure LawSt where
  cs : List Str
  vs : List Value
  nn : Nat
  lc : Addr
  at_ : Int
  t0 : Tok
  ws : List (Int × Int × Str)
  vw : List Value
  nw : Nat
  vp : List Value
  np : Nat
  tl : List (Addr × Obj)
abbrev nlt (a b : Nat) : Prop := a < b
abbrev nne (a b : Nat) : Prop := a ≠ b
structure RowSt where
  ls : List Str
  vs : List Value
  nn : Nat
  lc : Addr
  at_ : Int
  t0 : Tok
structure MoreSt where
  ls : List Str
  vs : List Value
  nn : Nat
  at_ : Int
  t0 : Tok

section
open PySem.Builtin PySem.Builtin.Str
def p5 (label : Int) (i : Nat) : List Nat := if i = 0 then dgl label ++ List.replicate (5 - (dgl label).length) 32 else [32, 32, 32, 32, 32]
def c6 (i : Nat) : Nat := if i = 0 then 32 else 43
theorem pre_eq {label : Int} (h : label < 100000) (i : Nat) : preL label i = p5 label i ++ [c6 i] := by
  have := dgl_len h
  unfold preL p5 c6 headL
  split
  · rw [show 6 - (dgl label).length = 5 - (dgl label).length + 1 by omega, List.replicate_succ', List.append_assoc]
  · rfl
theorem p5_len {label : Int} (h : label < 100000) (i : Nat) : (p5 label i).length = 5 := by
  have h1 := preL_len h i
  rw [pre_eq h, List.length_append] at h1
  exact Nat.succ.inj h1
theorem card_of {p b z : List Nat} {c W : Nat} (k : Int) (h5 : p.length = 5) (hz : b.length = W ∨ (b.length ≤ W ∧ z = [])) : cardOf ((W : Int) + 6) (k, M (p ++ c :: b ++ z)) = ⟨k, M p, M [c], M b⟩ := by
  have e : Txt.slice (M (p ++ c :: b ++ z)) none (some ((W : Int) + 6)) = M (p ++ c :: b) := by
    have := sl_to (p ++ c :: b ++ z) (W + 6)
    rw [show ((W + 6 : Nat) : Int) = (W : Int) + 6 by omega] at this
    rw [this]
    rcases hz with h | ⟨h, rfl⟩
    · rw [List.take_left' (by rw [List.length_append, List.length_cons, h5, h]; omega)]
    · rw [List.append_nil, List.take_of_length_le (by rw [List.length_append, List.length_cons, h5]; omega)]
  have es : seenOf (M (p ++ c :: b ++ z)) ((W : Int) + 6) = M (p ++ c :: b) := by
    unfold seenOf
    rw [e, if_neg]
    rw [M_len, List.length_append, List.length_cons, h5]; omega
  have t5 := sl_to (p ++ c :: b) 5
  have i5 := it_at (p ++ c :: b) 5 c (by rw [List.getElem?_append_right (by omega), h5]; rfl)
  have f6 := sl_from (p ++ c :: b) 6 (by rw [List.length_append, List.length_cons, h5]; omega)
  rw [show ((5 : Nat) : Int) = 5 from rfl] at t5 i5
  rw [show ((6 : Nat) : Int) = 6 from rfl] at f6
  unfold cardOf
  dsimp only
  rw [es, t5, i5, f6, List.take_left' h5]
  congr 2
  rw [show p ++ c :: b = (p ++ [c]) ++ b by simp, List.drop_left' (by simp [h5])]
theorem ne_M {a b : List Nat} (h : a ≠ b) : (M a == M b) = false := beq_eq_false_iff_ne.mpr fun e => h (M_inj e)
theorem not_cm {p b z : List Nat} {c W d : Nat} (h5 : p.length = 5) (hd : p.head? = some d) (h1 : d ≠ 67 ∧ d ≠ 99 ∧ d ≠ 42) (hb : b.length ≤ W) (hk : ∃ k ∈ c :: b, k ≠ 32) : isCm (M (p ++ c :: b ++ z)) ((W : Int) + 6) = false := by
  obtain ⟨p', rfl⟩ : ∃ p', p = d :: p' := by
    cases p with
    | nil => cases hd
    | cons a p' => exact ⟨p', by rw [Option.some.inj hd]⟩
  have t1 := sl_to (d :: p' ++ c :: b ++ z) 1
  rw [show ((1 : Nat) : Int) = 1 from rfl] at t1
  have tW := sl_to (d :: p' ++ c :: b ++ z) (W + 6)
  rw [show ((W + 6 : Nat) : Int) = (W : Int) + 6 by omega] at tW
  unfold isCm
  rw [t1, tW, rep, show ("C" : Str) = M [67] by decide +kernel, show ("c" : Str) = M [99] by decide +kernel, show ("*" : Str) = M [42] by decide +kernel, show ("" : Str) = M [] by decide +kernel]
  rw [ne_M (by simp [h1.1]), ne_M (by simp [h1.2.1]), ne_M (by simp [h1.2.2]), ne_M]
  · rfl
  · obtain ⟨k, hk1, hk2⟩ := hk
    intro e
    have : k ∈ List.filter (fun k => k != 32) (List.take (W + 6) (d :: p' ++ c :: b ++ z)) := by
      rw [List.mem_filter]
      refine ⟨?_, by simp [hk2]⟩
      have hl : (d :: p' ++ c :: b).length ≤ W + 6 := by rw [List.length_append, List.length_cons (a := c), h5]; omega
      obtain ⟨n, hn⟩ := Nat.exists_eq_add_of_le hl
      rw [hn, List.take_length_add_append]
      exact List.mem_append_left _ (List.mem_append_right _ hk1)
    rw [e] at this
    cases this
theorem rem_cm {x : Str} {W : Nat} (hW : 2 ≤ W) (h : x ∈ remarks) : isCm x ((W : Int) + 6) = true := by
  have key : ∀ l : List Nat, ((l.head? = some 67 ∨ l.head? = some 99 ∨ l.head? = some 42) ∨ l.filter (fun k => k != 32) = []) → isCm (M l) ((W : Int) + 6) = true := by
    intro l hl
    unfold isCm
    have t1 := sl_to l 1
    rw [show ((1 : Nat) : Int) = 1 from rfl] at t1
    have tW := sl_to l (W + 6)
    rw [show ((W + 6 : Nat) : Int) = (W : Int) + 6 by omega] at tW
    rw [t1, tW, rep, show ("C" : Str) = M [67] by decide +kernel, show ("c" : Str) = M [99] by decide +kernel, show ("*" : Str) = M [42] by decide +kernel, show ("" : Str) = M [] by decide +kernel]
    rcases hl with hl | hl
    · cases l with
      | nil => simp at hl
      | cons a r =>
        simp only [List.head?_cons, Option.some.injEq] at hl
        rcases hl with rfl | rfl | rfl <;> simp
    · have : (l.take (W + 6)).filter (fun k => k != 32) = [] := by
        rw [List.filter_eq_nil_iff] at hl ⊢
        exact fun a ha => hl a (List.mem_of_mem_take ha)
      rw [this]
      simp
  unfold remarks at h
  simp only [List.mem_cons, List.not_mem_nil, or_false] at h
  rcases h with rfl | rfl | rfl | rfl | rfl | rfl
  · rw [show ("C  A = 1" : Str) = M [67, 32, 32, 65, 32, 61, 32, 49] by decide +kernel]; exact key _ (.inl (.inl rfl))
  · rw [show ("*" : Str) = M [42] by decide +kernel]; exact key _ (.inl (.inr (.inr rfl)))
  · rw [show ("" : Str) = M [] by decide +kernel]; exact key _ (.inr rfl)
  · rw [show ("        " : Str) = M (List.replicate 8 32) by decide +kernel]; exact key _ (.inr rfl)
  · rw [show ("c     +X" : Str) = M [99, 32, 32, 32, 32, 32, 43, 88] by decide +kernel]; exact key _ (.inl (.inr (.inl rfl)))
  · rw [show ("* 10 X=1" : Str) = M [42, 32, 49, 48, 32, 88, 61, 49] by decide +kernel]; exact key _ (.inl (.inr (.inr rfl)))
end

section
open PySem.Builtin PySem.Builtin.Str
/-- a statement's rows as they are read -/
def GG (cont width : Int) (g : List Cd) : Prop :=
  ∃ c0 cr, g = c0 :: cr ∧ isCont c0 = false ∧ okLabel c0.label ∧ labelIn c0.body ≠ "END" ∧ (∀ c ∈ cr, isCont c = true ∧ labelIn c.label = "") ∧ (cr.length : Int) ≤ cont ∧ labelIn (textUp g width g.length) ≠ "" ∧ cr.length ≤ 100
def okAll (cont width : Int) : List Trip × List Cd → List Cd → Prop
  | _, [] => True
  | st, c :: cs => okS cont width st c ∧ okAll cont width (stS width st c) cs
theorem okAll_at {cont width : Int} : ∀ {cs : List Cd} {st : List Trip × List Cd}, okAll cont width st cs → ∀ (i : Nat) c, cs[i]? = some c → okS cont width ((cs.take i).foldl (stS width) st) c
  | [], st, _, i, c, h => by cases i <;> cases h
  | d :: cs, st, h, 0, c, hc => by
    obtain rfl := Option.some.inj hc
    exact h.1
  | d :: cs, st, h, i + 1, c, hc => okAll_at h.2 i c hc
theorem okAll_app {cont width : Int} : ∀ {a b : List Cd} {st : List Trip × List Cd}, okAll cont width st a → okAll cont width (a.foldl (stS width) st) b → okAll cont width st (a ++ b)
  | [], _, _, _, h => h
  | _ :: _, _, _, h, k => ⟨h.1, okAll_app h.2 k⟩
theorem fold_cont {width : Int} {c0 : Cd} {out : List Trip} : ∀ {cr pr : List Cd}, (∀ c ∈ cr, isCont c = true) → cr.foldl (stS width) (out, c0 :: pr) = (out, c0 :: (pr ++ cr))
  | [], pr, _ => by simp
  | c :: cr, pr, h => by
    rw [List.foldl_cons]
    have e : stS width (out, c0 :: pr) c = (out, c0 :: (pr ++ [c])) := by
      unfold stS
      rw [if_pos (h c (.head _))]; rfl
    rw [e, fold_cont fun d hd => h d (.tail _ hd), List.append_assoc]; rfl
theorem okAll_cont {cont width : Int} {c0 : Cd} {out : List Trip} (hb : labelIn c0.body ≠ "END") : ∀ {cr pr : List Cd}, (∀ c ∈ cr, isCont c = true ∧ labelIn c.label = "") → ((pr.length + cr.length : Nat) : Int) ≤ cont → okAll cont width (out, c0 :: pr) cr
  | [], _, _, _ => trivial
  | c :: cr, pr, h, hl => by
    have e : stS width (out, c0 :: pr) c = (out, c0 :: (pr ++ [c])) := by
      unfold stS
      rw [if_pos (h c (.head _)).1]; rfl
    refine ⟨?_, ?_⟩
    · unfold okS
      rw [if_pos (h c (.head _)).1]
      refine ⟨(h c (.head _)).2, c0, pr, rfl, ?_, hb⟩
      rw [List.length_cons] at hl ⊢
      omega
    · rw [e]
      refine okAll_cont hb (fun d hd => h d (.tail _ hd)) ?_
      rw [List.length_cons] at hl
      rw [List.length_append, List.length_singleton]
      omega
theorem step_first {width : Int} {st : List Trip × List Cd} {c : Cd} (h : isCont c = false) : stS width st c = (endS width st, [c]) := by
  unfold stS
  rw [if_neg (by rw [h]; decide)]
  rfl
theorem fold_group {cont width : Int} {g : List Cd} {st : List Trip × List Cd} (h : GG cont width g) : g.foldl (stS width) st = (endS width st, g) := by
  obtain ⟨c0, cr, rfl, h1, h2, h3, h4, h5, h6, h7⟩ := h
  rw [List.foldl_cons, step_first h1, fold_cont fun c hc => (h4 c hc).1]
  rfl
theorem okJoin_of {cont width : Int} {g : List Cd} (h : GG cont width g) : okJoin width g := by
  obtain ⟨c0, cr, rfl, h1, h2, h3, h4, h5, h6, h7⟩ := h
  intro d dr e
  obtain ⟨rfl, rfl⟩ := List.cons.inj e
  exact ⟨h2, h6, h7⟩
theorem okAll_group {cont width : Int} {g : List Cd} {st : List Trip × List Cd} (h : GG cont width g) (hj : okJoin width st.2) : okAll cont width st g := by
  obtain ⟨c0, cr, rfl, h1, h2, h3, h4, h5, h6, h7⟩ := h
  refine ⟨?_, ?_⟩
  · unfold okS
    rw [if_neg (by rw [h1]; decide)]
    exact ⟨h2, hj⟩
  · rw [step_first h1]
    exact okAll_cont h3 h4 (by rw [List.length_nil, Nat.zero_add]; exact h5)
theorem endS_some {width : Int} {out : List Trip} {g : List Cd} (h : g ≠ []) : endS width (out, g) = out ++ [joinedV width g] := by
  cases g with
  | nil => exact absurd rfl h
  | cons c r => rfl
theorem GG_ne {cont width : Int} {g : List Cd} (h : GG cont width g) : g ≠ [] := by
  obtain ⟨c0, cr, rfl, _⟩ := h
  exact List.cons_ne_nil _ _
/-- the statements of good groups -/
theorem fold_groups {cont width : Int} : ∀ {gs : List (List Cd)} {st : List Trip × List Cd}, (∀ g ∈ gs, GG cont width g) → okJoin width st.2 →
    okAll cont width st gs.flatten ∧ endS width (gs.flatten.foldl (stS width) st) = endS width st ++ gs.map (joinedV width) ∧ okJoin width (gs.flatten.foldl (stS width) st).2
  | [], st, _, hj => ⟨trivial, by simp, hj⟩
  | g :: gs, st, h, hj => by
    have hg := h g (.head _)
    obtain ⟨k1, k2, k3⟩ := fold_groups (gs := gs) (st := (endS width st, g)) (fun q hq => h q (.tail _ hq)) (okJoin_of hg)
    rw [List.flatten_cons, List.foldl_append, fold_group hg]
    refine ⟨okAll_app (okAll_group hg hj) (by rw [fold_group hg]; exact k1), ?_, k3⟩
    rw [k2, endS_some (GG_ne hg), List.append_assoc]; rfl
theorem groups_read {cont width : Int} {gs : List (List Cd)} (h : ∀ g ∈ gs, GG cont width g) :
    (∀ (i : Nat) c, gs.flatten[i]? = some c → okS cont width (foldS width (gs.flatten.take i)) c) ∧ okJoin width (foldS width gs.flatten).2 ∧ endS width (foldS width gs.flatten) = gs.map (joinedV width) := by
  obtain ⟨k1, k2, k3⟩ := fold_groups (st := ([], [])) h (fun _ _ e => nomatch e)
  exact ⟨okAll_at k1, k3, k2⟩

/-- a text that the law may lay -/
def okL (t : List Nat) : Prop := (∃ a r, t = a :: r ∧ (a = 88 ∨ a = 89)) ∧ (∃ l z, t = l ++ [z] ∧ z ≠ 32) ∧ 10 ∉ t ∧ t.length ≤ 160
theorem okL_of {x : Str} (h : okText x) : ∃ t, x = M t ∧ okL t := by
  rcases h with ⟨mid, rfl, h1, h2⟩ | rfl
  · refine ⟨_, rfl, ⟨88, mid ++ [90], rfl, .inl rfl⟩, ⟨88 :: mid, 90, rfl, by decide⟩, ?_, ?_⟩
    · intro hm
      rcases List.mem_append.mp hm with hm | hm
      · rcases List.mem_cons.mp hm with hm | hm
        · cases hm
        · exact (h2 _ hm).1 rfl
      · simp at hm
    · simp; omega
  · exact ⟨[89], by decide +kernel, ⟨89, [], rfl, .inr rfl⟩, ⟨[], 89, rfl, by decide⟩, by decide, by decide⟩
/-- what is read of row i: as it is, or padded -/
def bodyL (pad : Bool) (t : List Nat) (W i : Nat) : List Nat := if pad then chunk W t i ++ List.replicate (W - (chunk W t i).length) 32 else chunk W t i
def cdL (pad : Bool) (label : Int) (t : List Nat) (W : Nat) (k : Int) (i : Nat) : Cd := ⟨k, M (p5 label i), M [c6 i], M (bodyL pad t W i)⟩
theorem bodyL_full {pad : Bool} {t : List Nat} {W i : Nat} (hW : 0 < W) (h : i < nC t W) : bodyL pad t W i = chunk W t i := by
  unfold bodyL
  split
  · rw [chunk_len hW h, Nat.sub_self, List.replicate_zero, List.append_nil]
  · rfl
theorem bodyL_le (pad : Bool) (t : List Nat) (W i : Nat) : (bodyL pad t W i).length ≤ W := by
  have := chunk_len_le W t i
  unfold bodyL
  split
  · rw [List.length_append, List.length_replicate]; omega
  · exact this
def tailL (pad : Bool) (t : List Nat) (W : Nat) : List Nat := if pad then List.replicate (W - (chunk W t (nC t W)).length) 32 else []
theorem bodyL_last {pad : Bool} {t : List Nat} {W : Nat} : bodyL pad t W (nC t W) = chunk W t (nC t W) ++ tailL pad t W := by
  unfold bodyL tailL
  split
  · rfl
  · rw [List.append_nil]
theorem mul_take {t : List Nat} {W : Nat} (hW : 0 < W) : t.take (nC t W * W) ++ chunk W t (nC t W) = t := by
  rw [chunk_cat, List.take_of_length_le (nC_top hW)]
theorem text_up {pad : Bool} {label : Int} {t : List Nat} {W : Nat} (hW : 0 < W) (f : Nat → Int) : ∀ k, k ≤ nC t W → textUp ((List.range (nC t W + 1)).map fun i => cdL pad label t W (f i) i) (W : Int) k = M (t.take (k * W))
  | 0, _ => by
    rw [Nat.zero_mul]
    show ("" : Str) = M []
    decide +kernel
  | k + 1, h => by
    show textUp _ _ k ++ _ = _
    rw [text_up hW f k (by omega), List.getElem?_map, List.getElem?_range (by omega), Option.map_some, List.length_map, List.length_range]
    dsimp only
    rw [if_pos (by omega)]
    unfold cdL
    dsimp only
    rw [bodyL_full hW (by omega)]
    unfold padS
    rw [M_len, chunk_len hW (by omega), if_neg (by omega), M_app, chunk_cat]
theorem text_all {pad : Bool} {label : Int} {t : List Nat} {W : Nat} (hW : 0 < W) (f : Nat → Int) : textUp ((List.range (nC t W + 1)).map fun i => cdL pad label t W (f i) i) (W : Int) (nC t W + 1) = M (t ++ tailL pad t W) := by
  show textUp _ _ (nC t W) ++ _ = _
  rw [text_up hW f _ (Nat.le_refl _), List.getElem?_map, List.getElem?_range (by omega), Option.map_some, List.length_map, List.length_range]
  dsimp only
  rw [if_neg (by omega)]
  unfold cdL
  dsimp only
  rw [bodyL_last, M_app, ← List.append_assoc, mul_take hW]
theorem lab_p5 {label : Int} : labelIn (M (p5 label 0)) = M (dgl label) := by
  unfold labelIn p5
  rw [rep, if_pos rfl, List.filter_append]
  congr 1
  have h1 : (dgl label).filter (fun k => k != 32) = dgl label := by
    rw [List.filter_eq_self]
    intro c hc
    have := dgl_range c hc
    simp only [bne_iff_ne, ne_eq]; omega
  rw [h1, List.filter_replicate]
  simp
theorem filt_ne {a : Nat} {r : List Nat} {l : List Nat} (ha : a = 88 ∨ a = 89) (hl : l.head? ≠ some a) : labelIn (M (a :: r)) ≠ M l := by
  unfold labelIn
  rw [rep]
  intro e
  have e := M_inj e
  rw [List.filter_cons_of_pos (by simp; omega)] at e
  rw [← e] at hl
  exact hl rfl
theorem group_ok {pad : Bool} {label : Int} {t : List Nat} {W : Nat} {cont : Int} (f : Nat → Int) (hl0 : 0 ≤ label) (hl1 : label < 100000) (hW : 2 ≤ W) (ht : okL t) (hc : (nC t W : Int) ≤ cont) :
    GG cont W ((List.range (nC t W + 1)).map fun i => cdL pad label t W (f i) i) ∧ joinedV W ((List.range (nC t W + 1)).map fun i => cdL pad label t W (f i) i) = (f 0, label, M (t ++ tailL pad t W)) := by
  obtain ⟨⟨a, r, rfl, ha⟩, _, _, hlen⟩ := ht
  have hnc : nC (a :: r) W ≤ 160 := by
    unfold nC
    exact Nat.le_trans (Nat.div_le_self _ _) (by omega)
  have hT := text_all (pad := pad) (label := label) (t := a :: r) (W := W) (by omega) f
  have hsp : ((List.range (nC (a :: r) W + 1)).map fun i => cdL pad label (a :: r) W (f i) i) = cdL pad label (a :: r) W (f 0) 0 :: (List.range (nC (a :: r) W)).map fun i => cdL pad label (a :: r) W (f (i + 1)) (i + 1) := by
    rw [List.range_succ_eq_map, List.map_cons, List.map_map]; rfl
  have hlen2 : ((List.range (nC (a :: r) W + 1)).map fun i => cdL pad label (a :: r) W (f i) i).length = nC (a :: r) W + 1 := by simp
  refine ⟨⟨_, _, hsp, ?_, ?_, ?_, ?_, ?_, ?_, ?_⟩, ?_⟩
  · show (M [32] != (" " : Str) && _) = false
    rw [show (" " : Str) = M [32] by decide +kernel]; simp
  · refine ⟨?_, ?_, ?_⟩
    · show (labelIn (M (p5 label 0))).length ≤ 5
      rw [lab_p5, M_len]; exact dgl_len hl1
    · show ∀ c ∈ (labelIn (M (p5 label 0))).cps.toList, _
      rw [lab_p5]; exact dgl_range
    · show labelIn (M (p5 label 0)) = "" ∨ valD (labelIn (M (p5 label 0))).cps.toList 0 ≠ 0
      rw [lab_p5, M_list, dgl_val hl0]
      by_cases h : 0 < label
      · right; omega
      · left; rw [dgl_zero h]; decide +kernel
  · show labelIn (M (bodyL pad (a :: r) W 0)) ≠ "END"
    have : ∃ r', bodyL pad (a :: r) W 0 = a :: r' := by
      unfold bodyL chunk
      rw [Nat.zero_mul, List.drop_zero]
      obtain ⟨V, rfl⟩ : ∃ V, W = V + 1 := ⟨W - 1, by omega⟩
      rw [List.take_succ_cons]
      split
      · exact ⟨_, rfl⟩
      · exact ⟨_, rfl⟩
    obtain ⟨r', e⟩ := this
    rw [e, show ("END" : Str) = M [69, 78, 68] by decide +kernel]
    exact filt_ne ha (by rcases ha with rfl | rfl <;> decide)
  · intro c hc
    obtain ⟨i, hi, rfl⟩ := List.mem_map.mp hc
    refine ⟨?_, ?_⟩
    · show (M [43] != (" " : Str) && M [43] != ("0" : Str)) = true
      rw [show (" " : Str) = M [32] by decide +kernel, show ("0" : Str) = M [48] by decide +kernel]
      decide +kernel
    · show labelIn (M [32, 32, 32, 32, 32]) = ""
      unfold labelIn
      rw [rep]
      decide +kernel
  · rw [List.length_map, List.length_range]; exact hc
  · rw [hlen2, hT, show ("" : Str) = M [] by decide +kernel]
    exact filt_ne ha (by simp)
  · rw [List.length_map, List.length_range]
    exact Nat.div_le_of_le_mul (by omega)
  · have : joinedV (W : Int) ((List.range (nC (a :: r) W + 1)).map fun i => cdL pad label (a :: r) W (f i) i) = (f 0, labelV (M (p5 label 0)), textUp ((List.range (nC (a :: r) W + 1)).map fun i => cdL pad label (a :: r) W (f i) i) W (nC (a :: r) W + 1)) := by
      conv => lhs; rw [hsp]
      unfold joinedV
      dsimp only
      rw [← hsp, hlen2]; rfl
    rw [this, hT]
    have e : labelV (M (p5 label 0)) = label := by
      unfold labelV
      rw [lab_p5, M_list, dgl_val hl0]
    rw [e]
end

section
open PySem.Builtin PySem.Builtin.Str
theorem block_nil {cols : Int} {rs ls : List Str} (h : Block cols rs ls) (e : rs = []) : ls = [] := by
  cases h with
  | nil => rfl
  | row r _ => exact absurd e (by simp)
  | rem x _ _ => exact absurd e (by simp)
theorem rowL_eq {label : Int} (h : label < 100000) (t : List Nat) (W i : Nat) : rowL label t W i = p5 label i ++ c6 i :: chunk W t i := by
  unfold rowL
  rw [pre_eq h, List.append_assoc]; rfl
theorem padRow_list {label : Int} (h : label < 100000) (t : List Nat) (W i : Nat) : padRow ((W : Int) + 6) (M (rowL label t W i)) = M (p5 label i ++ c6 i :: bodyL true t W i ++ [83, 69, 81, 49]) := by
  have h5 := p5_len h i
  have hc := chunk_len_le W t i
  unfold padRow bodyL
  rw [if_pos rfl, rowL_eq h, blanks, M_len, List.length_append, List.length_cons, h5, show ("SEQ1" : Str) = M [83, 69, 81, 49] by decide +kernel, M_app, M_app]
  rw [show ((W : Int) + 6 - ((5 + ((chunk W t i).length + 1) : Nat) : Int)).toNat = W - (chunk W t i).length by omega]
  simp [List.append_assoc]
theorem body_full (t : List Nat) (W i : Nat) : (bodyL true t W i).length = W := by
  have hc := chunk_len_le W t i
  unfold bodyL
  rw [if_pos rfl, List.length_append, List.length_replicate]; omega
theorem p5_head (label : Int) (i : Nat) : ∃ d, (p5 label i).head? = some d ∧ d ≠ 67 ∧ d ≠ 99 ∧ d ≠ 42 := by
  unfold p5
  split
  · cases h : dgl label with
    | nil => exact ⟨32, rfl, by decide⟩
    | cons d r =>
      have := dgl_range (label := label) d (by rw [h]; exact .head _)
      exact ⟨d, rfl, by omega⟩
  · exact ⟨32, rfl, by decide⟩
theorem row_sign {pad : Bool} {t : List Nat} {W : Nat} (ht : okL t) (hW : 0 < W) (i : Nat) : ∃ k ∈ c6 i :: bodyL pad t W i, k ≠ 32 := by
  by_cases h : i = 0
  · subst h
    obtain ⟨⟨a, r, rfl, ha⟩, _⟩ := ht
    refine ⟨a, .tail _ ?_, by omega⟩
    obtain ⟨V, rfl⟩ : ∃ V, W = V + 1 := ⟨W - 1, by omega⟩
    unfold bodyL chunk
    rw [Nat.zero_mul, List.drop_zero, List.take_succ_cons]
    split
    · exact .head _
    · exact .head _
  · exact ⟨43, by unfold c6; rw [if_neg h]; exact .head _, by decide⟩
theorem readCards_app (cols : Int) (a b : List (Int × Str)) : readCards cols (a ++ b) = readCards cols a ++ readCards cols b := by
  unfold readCards
  rw [List.filter_append, List.map_append]
theorem readCards_in {cols : Int} {p : Int × Str} (h : isCm p.2 cols = false) : readCards cols [p] = [cardOf cols p] := by
  unfold readCards
  rw [List.filter_cons_of_pos (by rw [h]; rfl)]; rfl
theorem readCards_out {cols : Int} {p : Int × Str} (h : isCm p.2 cols = true) : readCards cols [p] = [] := by
  unfold readCards
  rw [List.filter_cons_of_neg (by rw [h]; decide)]; rfl
theorem map_range_snoc {α : Type} {g : Nat → α} {n : Nat} {rs : List α} {r : α} (h : rs ++ [r] = (List.range n).map g) : ∃ m, n = m + 1 ∧ rs = (List.range m).map g ∧ r = g m := by
  cases n with
  | zero => simp at h
  | succ m =>
    rw [List.range_succ, List.map_append] at h
    obtain ⟨h1, h2⟩ := List.append_inj' h rfl
    exact ⟨m, rfl, h1, by simpa using h2⟩
theorem map_set {pad : Bool} {label : Int} {t : List Nat} {W m : Nat} {f : Nat → Int} {q : Int} : ((List.range (m + 1)).map fun i => cdL pad label t W ((fun i => if i = m then q else f i) i) i) = ((List.range m).map fun i => cdL pad label t W (f i) i) ++ [cdL pad label t W q m] := by
  rw [List.range_succ, List.map_append]
  congr 1
  · refine List.map_congr_left fun i hi => ?_
    have h : (fun i => if i = m then q else f i) i = f i := if_neg (by have := List.mem_range.mp hi; omega)
    rw [h]
  · have h : (fun i => if i = m then q else f i) m = q := if_pos rfl
    rw [List.map_singleton, h]
theorem block_cards {label : Int} {t : List Nat} {W : Nat} (hl1 : label < 100000) (hW : 2 ≤ W) (ht : okL t) (k : Nat) {rs ls : List Str} (h : Block ((W : Int) + 6) rs ls) :
    ∀ n, rs = (List.range n).map (fun i => M (rowL label t W i)) → ∃ f : Nat → Int, f 0 = (k : Int) + 1 ∧ readCards ((W : Int) + 6) (numFrom k ls) = (List.range n).map fun i => cdL true label t W (f i) i := by
  induction h with
  | nil =>
    intro n hn
    have hn := congrArg List.length hn
    simp at hn
    subst hn
    exact ⟨fun _ => (k : Int) + 1, rfl, rfl⟩
  | @row rs ls r hB ih =>
    intro n hn
    obtain ⟨m, rfl, h1, rfl⟩ := map_range_snoc hn
    obtain ⟨f, hf, hr⟩ := ih m h1
    refine ⟨fun i => if i = m then ((k + ls.length : Nat) : Int) + 1 else f i, ?_, ?_⟩
    · dsimp only
      split
      · rename_i h0
        subst h0
        have := block_nil hB h1
        subst this
        simp
      · exact hf
    · have e1 : numFrom (k + ls.length) [padRow ((W : Int) + 6) (M (rowL label t W m))] = [(((k + ls.length : Nat) : Int) + 1, padRow ((W : Int) + 6) (M (rowL label t W m)))] := rfl
      obtain ⟨d, hd1, hd2⟩ := p5_head label m
      have e2 : readCards ((W : Int) + 6) [(((k + ls.length : Nat) : Int) + 1, padRow ((W : Int) + 6) (M (rowL label t W m)))] = [cdL true label t W (((k + ls.length : Nat) : Int) + 1) m] := by
        have q1 : isCm (M (p5 label m ++ c6 m :: bodyL true t W m ++ [83, 69, 81, 49])) ((W : Int) + 6) = false := not_cm (p5_len hl1 m) hd1 hd2 (bodyL_le true t W m) (row_sign ht (by omega) m)
        have q2 := readCards_in (cols := (W : Int) + 6) (p := (((k + ls.length : Nat) : Int) + 1, M (p5 label m ++ c6 m :: bodyL true t W m ++ [83, 69, 81, 49]))) q1
        rw [padRow_list hl1, q2, card_of _ (p5_len hl1 m) (.inl (body_full t W m)), cdL]
      rw [numFrom_append, readCards_app, hr, e1, e2, map_set]
  | @rem rs ls r x hB hx ih =>
    intro n hn
    obtain ⟨f, hf, hr⟩ := ih n hn
    refine ⟨f, hf, ?_⟩
    rw [numFrom_append, readCards_app, hr]
    show _ ++ readCards _ [(_, x)] = _
    rw [readCards_out (rem_cm hW hx), List.append_nil]
def Clean (l : Str) : Prop := 10 ∉ l.cps.toList ∧ l.length ≤ 80
theorem p5_clean (label : Int) (i : Nat) : 10 ∉ p5 label i := by
  unfold p5
  split
  · intro h
    rcases List.mem_append.mp h with h | h
    · have := dgl_range _ h; omega
    · have := (List.mem_replicate.mp h).2; omega
  · decide
theorem chunk_clean {t : List Nat} (h : 10 ∉ t) (W i : Nat) : 10 ∉ chunk W t i := fun hm => h (List.mem_of_mem_drop (List.mem_of_mem_take hm))
theorem c6_clean (i : Nat) : 10 ≠ c6 i := by unfold c6; split <;> decide
theorem row_clean {label : Int} {t : List Nat} {W i : Nat} (hl1 : label < 100000) (hW : W ≤ 54) (ht : okL t) : Clean (M (rowL label t W i)) := by
  have h5 := p5_len hl1 i
  have hc := chunk_len_le W t i
  rw [rowL_eq hl1]
  refine ⟨?_, by rw [M_len, List.length_append, List.length_cons]; omega⟩
  rw [M_list]
  intro h
  rcases List.mem_append.mp h with h | h
  · exact p5_clean _ _ h
  · rcases List.mem_cons.mp h with h | h
    · exact c6_clean _ h
    · exact chunk_clean ht.2.2.1 _ _ h
theorem padRow_clean {label : Int} {t : List Nat} {W i : Nat} (hl1 : label < 100000) (hW : W ≤ 54) (ht : okL t) : Clean (padRow ((W : Int) + 6) (M (rowL label t W i))) := by
  have h5 := p5_len hl1 i
  have hc := body_full t W i
  rw [padRow_list hl1]
  refine ⟨?_, by rw [M_len, List.length_append, List.length_append, List.length_cons, h5, hc]; show _ + 4 ≤ 80; omega⟩
  rw [M_list]
  intro h
  rcases List.mem_append.mp h with h | h
  · rcases List.mem_append.mp h with h | h
    · exact p5_clean _ _ h
    · rcases List.mem_cons.mp h with h | h
      · exact c6_clean _ h
      · unfold bodyL at h
        rw [if_pos rfl] at h
        rcases List.mem_append.mp h with h | h
        · exact chunk_clean ht.2.2.1 _ _ h
        · have := (List.mem_replicate.mp h).2; omega
  · simp at h
theorem rem_clean : ∀ x ∈ remarks, Clean x := by
  unfold remarks Clean
  decide +kernel
theorem block_clean {label : Int} {t : List Nat} {W : Nat} (hl1 : label < 100000) (hW : W ≤ 54) (ht : okL t) {rs ls : List Str} (h : Block ((W : Int) + 6) rs ls) :
    ∀ n, rs = (List.range n).map (fun i => M (rowL label t W i)) → ∀ l ∈ ls, Clean l := by
  induction h with
  | nil => exact fun _ _ _ h => nomatch h
  | @row rs ls r hB ih =>
    intro n hn l hl
    obtain ⟨m, rfl, h1, rfl⟩ := map_range_snoc hn
    rcases List.mem_append.mp hl with hl | hl
    · exact ih m h1 l hl
    · rw [List.mem_singleton.mp hl]; exact padRow_clean hl1 hW ht
  | @rem rs ls r x hB hx ih =>
    intro n hn l hl
    rcases List.mem_append.mp hl with hl | hl
    · exact ih n hn l hl
    · rw [List.mem_singleton.mp hl]; exact rem_clean x hx
theorem rstrip_pad {pad : Bool} {t : List Nat} {W : Nat} (ht : okL t) : Txt.rstripChars (M (t ++ tailL pad t W)) " " = M t := by
  obtain ⟨_, ⟨l, z, rfl, hz⟩, _⟩ := ht
  unfold tailL
  split
  · exact rstrip_blanks l z _ hz
  · have := rstrip_blanks l z 0 hz
    rw [List.replicate_zero] at this
    exact this
theorem strip_same {t : List Nat} (ht : okL t) : Txt.rstripChars (M t) " " = M t := by
  have := rstrip_pad (pad := false) (W := 2) ht
  unfold tailL at this
  rw [if_neg (by decide), List.append_nil] at this
  exact this
theorem cd_small {pad : Bool} {label : Int} {t : List Nat} {W : Nat} {f : Nat → Int} {n : Nat} (hl1 : label < 100000) (hW : W ≤ 54) : ∀ c ∈ (List.range n).map fun i => cdL pad label t W (f i) i, c.label.length ≤ 1000 ∧ c.body.length ≤ 100 := by
  intro c hc
  obtain ⟨i, hi, rfl⟩ := List.mem_map.mp hc
  have h1 := p5_len hl1 i
  have h2 := bodyL_le pad t W i
  exact ⟨by show (M (p5 label i)).length ≤ 1000; rw [M_len]; omega, by show (M (bodyL pad t W i)).length ≤ 100; rw [M_len]; omega⟩
/-- all that was laid is read again -/
theorem laid_read {W : Nat} {cont : Int} (hW : 2 ≤ W) (hW2 : W ≤ 54) {cs : List Str} {ws : List (Int × Int × Str)} (h : Laid ((W : Int) + 6) cont cs ws) :
    (∃ gs : List (List Cd), readCards ((W : Int) + 6) (numFrom 0 cs) = gs.flatten ∧ (∀ g ∈ gs, GG cont W g) ∧ (gs.map (joinedV W)).map (fun q => (q.1, q.2.1, Txt.rstripChars q.2.2 " ")) = ws ∧ (∀ c ∈ gs.flatten, c.label.length ≤ 1000 ∧ c.body.length ≤ 100) ∧ ∀ q ∈ gs.map (joinedV W), q.2.2.length ≤ 1000) ∧ ∀ l ∈ cs, Clean l := by
  induction h with
  | nil => exact ⟨⟨[], rfl, fun _ h => (nomatch h), rfl, fun _ h => (nomatch h), fun _ h => (nomatch h)⟩, fun _ h => (nomatch h)⟩
  | @more cs ls ws label x hL h0 h1 hx hn hB ih =>
    obtain ⟨⟨gs, e1, e2, e3, e4, e6⟩, e5⟩ := ih
    obtain ⟨t, rfl, ht⟩ := okL_of hx
    have ew : (W : Int) + 6 - 5 - 1 = (W : Int) := by omega
    rw [ew] at hn hB
    rw [nCont_list] at hn
    rw [rowsOf_list label t W (by omega)] at hB
    obtain ⟨f, hf, hr⟩ := block_cards h1 hW ht cs.length hB _ rfl
    obtain ⟨k1, k2⟩ := group_ok (pad := true) f h0 h1 hW ht hn
    refine ⟨⟨gs ++ [(List.range (nC t W + 1)).map fun i => cdL true label t W (f i) i], ?_, ?_, ?_, ?_, ?_⟩, ?_⟩
    · rw [numFrom_append, readCards_app, e1, Nat.zero_add, hr, List.flatten_append]; simp
    · intro g hg
      rcases List.mem_append.mp hg with hg | hg
      · exact e2 g hg
      · rw [List.mem_singleton.mp hg]; exact k1
    · rw [List.map_append, List.map_append, e3]
      congr 1
      rw [List.map_singleton, List.map_singleton, k2]
      dsimp only
      rw [rstrip_pad ht, hf]
    · intro c hc
      rw [List.flatten_append] at hc
      rcases List.mem_append.mp hc with hc | hc
      · exact e4 c hc
      · rw [List.flatten_cons, List.flatten_nil, List.append_nil] at hc
        exact cd_small h1 hW2 c hc
    · intro q hq
      rw [List.map_append] at hq
      rcases List.mem_append.mp hq with hq | hq
      · exact e6 q hq
      · rw [List.map_singleton, List.mem_singleton] at hq
        rw [hq, k2]
        dsimp only
        have h5 : (tailL true t W).length ≤ W := by unfold tailL; rw [if_pos rfl, List.length_replicate]; omega
        have h6 := ht.2.2.2
        rw [M_len, List.length_append]; omega
    · intro l hl
      rcases List.mem_append.mp hl with hl | hl
      · exact e5 l hl
      · exact block_clean h1 hW2 ht hB _ rfl l hl
def okP (cols cont : Int) (p : Int × Str) : Prop := 0 ≤ p.1 ∧ p.1 < 100000 ∧ okText p.2 ∧ (nCont p.2 (cols - 5 - 1) : Int) ≤ cont
theorem laid_ok {cols cont : Int} {cs : List Str} {ws : List (Int × Int × Str)} (h : Laid cols cont cs ws) : ∀ q ∈ ws, okP cols cont q.2 := by
  induction h with
  | nil => exact fun _ h => (nomatch h)
  | more hL h0 h1 hx hn hB ih =>
    intro q hq
    rcases List.mem_append.mp hq with hq | hq
    · exact ih q hq
    · rw [List.mem_singleton.mp hq]; exact ⟨h0, h1, hx, hn⟩
/-- rows that were not laid on cards are read too -/
theorem rows_cards {label : Int} {t : List Nat} {W : Nat} (hl1 : label < 100000) (hW : 2 ≤ W) (ht : okL t) (k : Nat) :
    ∀ n, ∃ f : Nat → Int, readCards ((W : Int) + 6) (numFrom k ((List.range n).map fun i => M (rowL label t W i))) = (List.range n).map fun i => cdL false label t W (f i) i
  | 0 => ⟨fun _ => 0, rfl⟩
  | m + 1 => by
    obtain ⟨f, hr⟩ := rows_cards hl1 hW ht k m
    refine ⟨fun i => if i = m then ((k + m : Nat) : Int) + 1 else f i, ?_⟩
    have e0 : ((List.range (m + 1)).map fun i => M (rowL label t W i)) = ((List.range m).map fun i => M (rowL label t W i)) ++ [M (rowL label t W m)] := by rw [List.range_succ, List.map_append]; rfl
    have e1 : numFrom (k + ((List.range m).map fun i => M (rowL label t W i)).length) [M (rowL label t W m)] = [(((k + m : Nat) : Int) + 1, M (rowL label t W m))] := by rw [List.length_map, List.length_range]; rfl
    obtain ⟨d, hd1, hd2⟩ := p5_head label m
    have hb : rowL label t W m = p5 label m ++ c6 m :: bodyL false t W m ++ [] := by
      rw [rowL_eq hl1, List.append_nil]
      unfold bodyL
      rw [if_neg (by decide)]
    have e2 : readCards ((W : Int) + 6) [(((k + m : Nat) : Int) + 1, M (rowL label t W m))] = [cdL false label t W (((k + m : Nat) : Int) + 1) m] := by
      have q1 : isCm (M (p5 label m ++ c6 m :: bodyL false t W m ++ [])) ((W : Int) + 6) = false := not_cm (p5_len hl1 m) hd1 hd2 (bodyL_le false t W m) (row_sign ht (by omega) m)
      have q2 := readCards_in (cols := (W : Int) + 6) (p := (((k + m : Nat) : Int) + 1, M (p5 label m ++ c6 m :: bodyL false t W m ++ []))) q1
      rw [hb, q2, card_of _ (p5_len hl1 m) (.inr ⟨bodyL_le false t W m, rfl⟩), cdL]
    rw [e0, numFrom_append, readCards_app, hr, e1, e2, map_set]
theorem plain_read {W : Nat} {cont : Int} (hW : 2 ≤ W) (hW2 : W ≤ 54) : ∀ {ps : List (Int × Str)}, (∀ p ∈ ps, okP ((W : Int) + 6) cont p) → ∀ k,
    (∃ gs : List (List Cd), readCards ((W : Int) + 6) (numFrom k (ps.flatMap fun p => rowsOf p.1 p.2 ((W : Int) + 6 - 5 - 1))) = gs.flatten ∧ (∀ g ∈ gs, GG cont W g) ∧ (gs.map (joinedV W)).map (fun q => q.2) = ps ∧ ∀ c ∈ gs.flatten, c.label.length ≤ 1000 ∧ c.body.length ≤ 100) ∧
      (∀ l ∈ ps.flatMap fun p => rowsOf p.1 p.2 ((W : Int) + 6 - 5 - 1), Clean l ∧ 6 ≤ l.length) ∧ (ps.flatMap fun p => rowsOf p.1 p.2 ((W : Int) + 6 - 5 - 1)).length ≤ 81 * ps.length
  | [], _, _ => ⟨⟨[], rfl, fun _ h => (nomatch h), rfl, fun _ h => (nomatch h)⟩, fun _ h => (nomatch h), Nat.zero_le _⟩
  | (label, x) :: ps, h, k => by
    obtain ⟨h0, h1, hx, hn⟩ := h _ (.head _)
    obtain ⟨t, rfl, ht⟩ := okL_of hx
    dsimp only at h0 h1 hx hn
    obtain ⟨⟨gs, e1, e2, e3, e4⟩, e5, e6⟩ := plain_read hW hW2 (ps := ps) (fun p hp => h p (.tail _ hp)) (k + (rowsOf label (M t) ((W : Int) + 6 - 5 - 1)).length)
    have ew : (W : Int) + 6 - 5 - 1 = (W : Int) := by omega
    rw [ew] at hn e1 e5 e6 ⊢
    rw [nCont_list] at hn
    have hR := rowsOf_list label t W (by omega)
    obtain ⟨f, hr⟩ := rows_cards h1 hW ht k (nC t W + 1)
    obtain ⟨k1, k2⟩ := group_ok (pad := false) f h0 h1 hW ht hn
    rw [List.flatMap_cons]
    dsimp only
    refine ⟨⟨((List.range (nC t W + 1)).map fun i => cdL false label t W (f i) i) :: gs, ?_, ?_, ?_, ?_⟩, ?_, ?_⟩
    · rw [numFrom_append, readCards_app, e1, hR, hr, List.flatten_cons]
    · intro g hg
      rcases List.mem_cons.mp hg with rfl | hg
      · exact k1
      · exact e2 g hg
    · rw [List.map_cons, List.map_cons, e3, k2]
      unfold tailL
      rw [if_neg (by decide), List.append_nil]
    · intro c hc
      rw [List.flatten_cons] at hc
      rcases List.mem_append.mp hc with hc | hc
      · exact cd_small h1 hW2 c hc
      · exact e4 c hc
    · intro l hl
      rcases List.mem_append.mp hl with hl | hl
      · rw [hR] at hl
        obtain ⟨i, hi, rfl⟩ := List.mem_map.mp hl
        refine ⟨row_clean h1 hW2 ht, ?_⟩
        rw [M_len]; unfold rowL
        rw [List.length_append, preL_len h1]; omega
      · exact e5 l hl
    · rw [List.length_append, hR, List.length_map, List.length_range, List.length_cons]
      have : nC t W ≤ 80 := by
        have := ht.2.2.2
        exact Nat.div_le_of_le_mul (by omega)
      omega
/-- a text of clean lines is cut into them again -/
theorem split_lines {ls : List Str} (hne : ls ≠ []) (h : ∀ l ∈ ls, Clean l) : Txt.split (Txt.join "\n" ls) "\n" = ls := by
  have e : Txt.join "\n" ls = M (cat 10 (ls.map fun y => y.cps.toList)) := by
    show glued _ _ = _
    rw [StrLaws.glued_eq_join, show ("\n" : Str) = ⟨#[10]⟩ by decide +kernel]
    conv => lhs; rw [map_M ls]
    exact join_cat 10 _
  rw [e, show ("\n" : Str) = ⟨#[10]⟩ by decide +kernel, split_join (by simpa using hne) (by
    intro l hl
    obtain ⟨p, hp, rfl⟩ := List.mem_map.mp hl
    exact (h p hp).1)]
  exact (map_M ls).symm
theorem cat_snoc (c : Nat) : ∀ {ls : List (List Nat)}, ls ≠ [] → cat c (ls ++ [[]]) = cat c ls ++ [c]
  | [], h => absurd rfl h
  | [x], _ => rfl
  | x :: y :: r, _ => by
    show x ++ c :: cat c ((y :: r) ++ [[]]) = _
    rw [cat_snoc c (ls := y :: r) (by simp)]
    simp [cat]
theorem split_lines2 {ls : List Str} (hne : ls ≠ []) (h : ∀ l ∈ ls, Clean l) : Txt.split (Txt.join "\n" ls ++ "\n") "\n" = ls ++ [("" : Str)] := by
  have e : Txt.join "\n" ls ++ "\n" = Txt.join "\n" (ls ++ [("" : Str)]) := by
    show glued _ _ ++ _ = glued _ _
    rw [StrLaws.glued_eq_join, StrLaws.glued_eq_join, show ("\n" : Str) = ⟨#[10]⟩ by decide +kernel, show ("" : Str) = M [] by decide +kernel]
    have e2 : ls ++ [M []] = ((ls.map fun y : Str => y.cps.toList) ++ [[]]).map M := by
      rw [List.map_append]
      conv => lhs; rw [map_M ls]
      rfl
    rw [e2, join_cat, cat_snoc _ (by simpa using hne)]
    conv => lhs; rw [map_M ls]
    rw [join_cat]
    exact M_app _ _
  rw [e, split_lines (by simp)]
  intro l hl
  rcases List.mem_append.mp hl with hl | hl
  · exact h l hl
  · rw [List.mem_singleton.mp hl]; unfold Clean; decide +kernel
end

section
open PyProof.Rows.LCg
variable {prog : Program} {w : World} {A : Around} {E : Value → Shared → Prop} {s : Shared} {h₀ : Heap} {L : Addr} {m : Str → Option Value} {env : Env}
/-- the ledger of a comprehension under way: its iterator, its names, its list, what it made, and what stood before -/
def CompLed (I : Addr) (oI : Obj) (C : Addr) (oC : Obj) (D : Addr) (ys : List Value) (made news : List (Addr × Obj)) : List (Addr × Obj) := (I, oI) :: (C, oC) :: (D, lst ys) :: (made ++ news)
/-- one element is laid -/
def Elt (h₀ : Heap) (L : Addr) (m : Str → Option Value) (s₁ : Shared) (I : Addr) (oI : Obj) (C : Addr) (oC : Obj) (D : Addr) (ys : List Value) (news : List (Addr × Obj)) (R : List Value → List (Addr × Obj) → Prop) (y : Value) (s₂ : Shared) : Prop :=
  ∃ h' tk made, s₂ = { s₁ with heap := h', toks := tk } ∧ Fr h₀ L h' m ∧ News h₀ L h' (CompLed I oI C oC D ys made news) ∧ (∀ p ∈ made ++ news, p.1 ≠ I ∧ p.1 ≠ C ∧ p.1 ≠ D) ∧ R (ys ++ [y]) made
/-- a comprehension's iterable, over a list of triples -/
def Src3 (prog : Program) (w : World) (A : Around) (h₀ : Heap) (L : Addr) (m : Str → Option Value) (env : Env) (elt : Expr) (x1 x2 x3 : Str) (scope : Scope) (cl : List (Str × Addr)) (Q : Value → Shared → Prop) (xv : Value) (s₁ : Shared) : Prop :=
  ∃ (l : Addr) (vs : List Value) (nn : Nat) (news : List (Addr × Obj)) (R : Nat → List Value → List (Addr × Obj) → Prop), xv = .ref l ∧ A.handled = none ∧ Fr h₀ L s₁.heap m ∧ News h₀ L s₁.heap news ∧ (l, listOf vs.toArray nn) ∈ news ∧ vs.length ≤ sizeLine ∧ R 0 [] [] ∧
    (∀ i v, vs[i]? = some v → ∃ (t : Addr) (v1 v2 v3 : Value) (nt : Nat), v = .ref t ∧ (t, ({ cls := .type "tuple", data := .seq #[v1, v2, v3] nt } : Obj)) ∈ news ∧
      ∀ ys made I oI C oC D m₂ h tk (E' : Value → Shared → Prop), R i ys made → NsObj oC m₂ → m₂ x1 = some v1 → m₂ x2 = some v2 → m₂ x3 = some v3 → Fr h₀ L h m → News h₀ L h (CompLed I oI C oC D ys made news) → (∀ p ∈ made ++ news, p.1 ≠ I ∧ p.1 ≠ C ∧ p.1 ≠ D) → (@Ne Nat I C ∧ @Ne Nat I D ∧ @Ne Nat C D) →
        wpAny (model prog w) A (eval elt (compEnvC scope cl C env)) (Elt h₀ L m { s₁ with heap := h, toks := tk } I oI C oC D ys news (R (i + 1))) E' { s₁ with heap := h, toks := tk }) ∧
    (∀ D ys made h tk, R vs.length ys made → Fr h₀ L h m → News h₀ L h ((D, lst ys) :: (made ++ news)) → (∀ p ∈ made ++ news, p.1 ≠ D) → Q (.ref D) { s₁ with heap := h, toks := tk })
set_option maxHeartbeats 1000000 in
theorem comp3 {elt iter : Expr} {x1 x2 x3 : Str} {q1 q2 q3 tp : Pos} {kk : Nat} {scope : Scope} {cl : List (Str × Addr)} {pos : Pos} {Q : Value → Shared → Prop} (F₀ : Fr h₀ L s.heap m)
    (hclos : closureFor scope env = pure cl) (hcell : ∀ y ∈ scope.names, y.2 ≠ .cell) (hkind : scope.kind = .function)
    (hnames : ∀ y ∈ scope.names, y.2 = .local → scope.names.lookup y.1 = some .local) (hx1 : scope.names.lookup x1 = some .local) (hx2 : scope.names.lookup x2 = some .local) (hx3 : scope.names.lookup x3 = some .local)
    (h12 : x1 ≠ x2) (h13 : x1 ≠ x3) (h23 : x2 ≠ x3)
    (h : wpAny (model prog w) A (eval iter env) (Src3 prog w A h₀ L m env elt x1 x2 x3 scope cl Q) E s)
    (hs : ∀ x, foldedSetIterable iter env x = pure x := by intro _; rfl) :
    wpAny (model prog w) A (eval (.ListComp elt [⟨.Tuple [.Name x1 q1, .Name x2 q2, .Name x3 q3] kk tp, iter, [], 0⟩] scope pos) env) Q E s := by
  rw [eval_ListComp]
  refine wpAny_comprehension_free (use := none) rfl hs hclos hkind hnames (wpAny_mono h (fun xv s₁ h₁ => ?_) fun _ _ e => e)
  obtain ⟨l, vs, nn, news, R, rfl, hh, F, N, hl, hsz, R0, turn, fin⟩ := h₁
  have hls : s₁.heap.IsList l vs.toArray := News.isList N hl
  have hlt : l < s₁.heap.objs.size := Heap.lt_size (N _ hl).1
  refine wpAny_pyIter_list hls ?_
  have W := Walks.list (prog := prog) (w := w) hh s₁.heap.objs.size l (Nat.ne_of_lt hlt) vs.toArray
  rw [show vs.toArray.size = vs.length by simp] at W
  refine wpAny_newObj_type (wpAny_newFunctionEnv hcell (by intro y hy; simp at hy) (fun h₁ hns₁ hsb₁ => ?_) hkind)
  dsimp only at hns₁ hsb₁ ⊢
  generalize hoI : ({ cls := .type "list_iterator", data := .fields #[.ref l, .int 0 0] } : Obj) = oI0 at *
  have hpI : (s₁.heap.push oI0).get? s₁.heap.objs.size = some oI0 := by rw [← hoI]; exact Heap.get?_push_size _ rfl
  generalize hIa : s₁.heap.objs.size = I at *
  generalize hDa : (s₁.heap.push oI0).objs.size = D at *
  have hD1 : D = I + 1 := by rw [← hDa, Heap.size_push, hIa]
  generalize hH2 : (s₁.heap.push oI0).push { cls := .type "list", dict := none, data := .seq ([] : List Value).toArray } = H2 at hns₁ hsb₁ ⊢
  have hC : H2.objs.size = D + 1 := by rw [← hH2, Heap.size_push, hDa]
  generalize hCa : H2.objs.size = C at *
  have hID : I < D := by rw [hD1]; exact Nat.lt_succ_self _
  have hDC : D < C := by rw [hC]; exact Nat.lt_succ_self _
  have old1 : ∀ b o, s₁.heap.get? b = some o → b < I := fun b o e => by rw [← hIa]; exact Heap.lt_size e
  have up2 : ∀ b o, s₁.heap.get? b = some o → H2.get? b = some o := fun b o e => by rw [← hH2]; exact Heap.get?_push_of_some _ (Heap.get?_push_of_some _ e)
  have old : ∀ b o, s₁.heap.get? b = some o → h₁.get? b = some o := fun b o e => hsb₁.extBut b o (Nat.ne_of_lt (Nat.lt_trans (old1 b o e) (Nat.lt_trans hID hDC))) (Heap.get?_push_of_some _ (up2 b o e))
  have hgI : H2.get? I = some oI0 := by rw [← hH2]; exact Heap.get?_push_of_some _ hpI
  have hgD : H2.get? D = some (lst []) := by rw [← hH2, ← hDa]; exact Heap.get?_push_size _ rfl
  have hst₁ : h₁.IsListIter I l 0 ∧ h₁.IsList l vs.toArray := by
    refine ⟨⟨oI0, hsb₁.extBut _ _ (Nat.ne_of_lt (Nat.lt_trans hID hDC)) (Heap.get?_push_of_some _ hgI), ?_⟩, hls.at fun o e => old _ o e⟩
    rw [← hoI]
    exact ⟨rfl, rfl⟩
  have hacc : h₁.get? D = some (lst []) := hsb₁.extBut _ _ (Nat.ne_of_lt hDC) (Heap.get?_push_of_some _ hgD)
  have fresh₀ : ∀ a, I ≤ a → h₀.get? a = none := fun a ha => by
    cases e : h₀.get? a with
    | none => rfl
    | some o' => exact absurd (old1 _ _ (F.keep a o' e)) (Nat.not_lt.mpr ha)
  have hI₀ := fresh₀ I (Nat.le_refl _)
  have hD₀ := fresh₀ D (Nat.le_of_lt hID)
  have hC₀ := fresh₀ C (Nat.le_of_lt (Nat.lt_trans hID hDC))
  have hLI : L < I := by rw [← hIa]; exact F.ns.lt
  have hIL : L ≠ I := Nat.ne_of_lt hLI
  have hDL : D ≠ L := Nat.ne_of_gt (Nat.lt_trans hLI hID)
  have hCL : C ≠ L := Nat.ne_of_gt (Nat.lt_trans hLI (Nat.lt_trans hID hDC))
  have nIC : I ≠ C := Nat.ne_of_lt (Nat.lt_trans hID hDC)
  have nID : I ≠ D := Nat.ne_of_lt hID
  have nDC : D ≠ C := Nat.ne_of_lt hDC
  have hlI : l < I := old1 _ _ (N _ hl).1
  have nlD : l ≠ D := Nat.ne_of_lt (Nat.lt_trans hlI hID)
  have nlC : l ≠ C := Nat.ne_of_lt (Nat.lt_trans hlI (Nat.lt_trans hID hDC))
  have off0 : ∀ p ∈ news, p.1 ≠ I ∧ p.1 ≠ C ∧ p.1 ≠ D := fun p hp => by
    have q := old1 _ _ (N p hp).1
    exact ⟨Nat.ne_of_lt q, Nat.ne_of_lt (Nat.lt_trans q (Nat.lt_trans hID hDC)), Nat.ne_of_lt (Nat.lt_trans q hID)⟩
  have loop : ∀ s₃ : Shared, s₃ = { s₁ with heap := h₁, toks := s₁.toks + ([] : List (Str × Value)).length } →
      codeAny (model prog w) A (.compLoop (.ListComp elt [⟨.Tuple [.Name x1 q1, .Name x2 q2, .Name x3 q3] kk tp, iter, [], 0⟩] scope pos) 0 (.ref I) (.ref D) (compEnvC scope cl C env))
        (compPost (model prog w) A E none Q (.ref D) C) s₃ := by
    rintro s₃ rfl
    refine LCp.codeAny_compLoop_pair
      (fun k s' => ∃ h' tk i ys m' made, s' = { s₁ with heap := h', toks := tk } ∧ i ≤ vs.length ∧ k = vs.length + 1 - i ∧ ys.length = i ∧ (h'.IsListIter I l i ∧ h'.IsList l vs.toArray) ∧ Fr h₀ L h' m ∧ h'.Ns C m' ∧ News h₀ L h' ((D, lst ys) :: (made ++ news)) ∧
        (∀ p ∈ made ++ news, p.1 ≠ I ∧ p.1 ≠ C ∧ p.1 ≠ D) ∧ R i ys made) ?_ (vs.length + 1)
      ⟨h₁, _, 0, [], _, [], rfl, Nat.zero_le _, rfl, rfl, hst₁, F.keeps old, hns₁, fun p hp => ?_, off0, R0⟩
    · rintro k s' ⟨h', tk, i, ys, m', made, rfl, hi, rfl, hyl, hst', F', hn', N', off', hR⟩
      by_cases hlt2 : i < vs.length
      · refine W.item i _ _ _ hlt2 hst' fun v h₂ tk₂ hPv hst₂ hk₂ => ?_
        have hPv' : vs[i]? = some v := by simpa using hPv
        obtain ⟨t, v1, v2, v3, nt, rfl, hmt, T⟩ := turn i v hPv'
        have N₂ : News h₀ L h₂ ((D, lst ys) :: (made ++ news)) := news_but N' hk₂ fun p hp => by
          rcases List.mem_cons.mp hp with rfl | hp
          · exact Ne.symm nID
          · exact (off' p hp).1
        have ht : IsTup h₂ t #[v1, v2, v3] := ⟨_, (N₂ _ (.tail _ (List.mem_append_right _ hmt))).1, rfl, nt, rfl⟩
        refine wpAny_letOwnedTupleGo_listiter hst₂.1 ?_
        refine assign_Tuple_tuple hh ht rfl rfl fun h₅ he => ?_
        have he' : ∀ b o, h₂.get? b = some o → h₅.get? b = some o := fun b o e => he b o (Nat.ne_of_lt (Heap.lt_size e)) e
        have hn₂ := (hn'.at' fun o e => hk₂ _ o (by simpa using Ne.symm nIC) e).at' fun o e => he' _ o e
        refine assignInOrder_cons (wpAny_assign_Name (wpAny_storeName_local (lookup_relabel_local hx1) hn₂ (fun h₆ hn₆ hs₆ => ?_) (by simp [compEnvC, relabel, hkind])))
        refine assignInOrder_cons (wpAny_assign_Name (wpAny_storeName_local (lookup_relabel_local hx2) hn₆ (fun h₇ hn₇ hs₇ => ?_) (by simp [compEnvC, relabel, hkind])))
        refine assignInOrder_cons (wpAny_assign_Name (wpAny_storeName_local (lookup_relabel_local hx3) hn₇ (fun h₃ hn₃ hs₃ => ?_) (by simp [compEnvC, relabel, hkind])))
        refine assignInOrder_nil ?_
        have old3 : ∀ b o, b ≠ C → h₂.get? b = some o → h₃.get? b = some o := fun b o hb e => hs₃.extBut b o hb (hs₇.extBut b o hb (hs₆.extBut b o hb (he' b o e)))
        have hst₃ : h₃.IsListIter I l (i + 1) ∧ h₃.IsList l vs.toArray := ⟨hst₂.1.at fun o e => old3 _ o nIC e, hst₂.2.at fun o e => old3 _ o nlC e⟩
        obtain ⟨oI, heI, _⟩ := id hst₃.1
        obtain ⟨oC, heC, hoC⟩ := ns_obj hn₃
        have F₃ : Fr h₀ L h₃ m := ((((fr_but F' hk₂ hIL hI₀).keeps he').change hs₆ hCL hC₀).change hs₇ hCL hC₀).change hs₃ hCL hC₀
        have N₃ : News h₀ L h₃ (CompLed I oI C oC D ys made news) := fun p hp => by
          rcases List.mem_cons.mp hp with rfl | hp
          · exact ⟨heI, Ne.symm hIL, hI₀⟩
          · rcases List.mem_cons.mp hp with rfl | hp
            · exact ⟨heC, hCL, hC₀⟩
            · have z := N₂ p hp
              refine ⟨old3 _ _ ?_ z.1, z.2⟩
              rcases List.mem_cons.mp hp with rfl | hp
              · exact nDC
              · exact (off' p hp).2.1
        refine wpAny_mono (T ys made I oI C oC D _ h₃ _ _ hR hoC (by simp [h12, h13]) (by simp [h23]) (by simp) F₃ N₃ off' ⟨nIC, nID, Ne.symm nDC⟩) (fun y s₄ h₄ => ?_) fun _ _ e => e
        obtain ⟨h₄, tk₄, made₄, rfl, F₄, N₄, off₄, R₄⟩ := h₄
        have zI := (N₄ (I, oI) (.head _)).1
        have zC := (N₄ (C, oC) (.tail _ (.head _))).1
        have zD := (N₄ (D, lst ys) (.tail _ (.tail _ (.head _)))).1
        have N₄' : News h₀ L h₄ (made₄ ++ news) := fun p hp => N₄ p (.tail _ (.tail _ (.tail _ hp)))
        have hst₄ : h₄.IsListIter I l (i + 1) ∧ h₄.IsList l vs.toArray := by
          refine ⟨?_, News.isList N₄' (List.mem_append_right _ hl)⟩
          obtain ⟨o', q, r⟩ := hst₃.1
          rw [heI] at q
          cases q
          exact ⟨oI, zI, r⟩
        refine append_at (hsz := by show ys.toArray.size ≤ sizeLine; rw [List.size_toArray, hyl]; exact Nat.le_trans hi hsz) zD fun h₅ hs₅ hD₅ => ?_
        refine ⟨vs.length + 1 - (i + 1), by omega, h₅, tk₄, i + 1, ys ++ [y], _, made₄, rfl, hlt2, rfl, by rw [List.length_append, List.length_singleton, hyl],
          ⟨hst₄.1.at fun o e => hs₅.extBut _ o nID e, hst₄.2.at fun o e => hs₅.extBut _ o nlD e⟩, F₄.change hs₅ hDL hD₀, (hoC.ns zC).sameBut hs₅ (Ne.symm nDC), fun p hp => ?_, off₄, R₄⟩
        rcases List.mem_cons.mp hp with rfl | hp
        · exact ⟨hD₅.trans (congrArg some (lst_snoc ys y)), hDL, hD₀⟩
        · exact ⟨hs₅.extBut _ _ (off₄ p hp).2.2 (N₄' p hp).1, (N₄' p hp).2⟩
      · obtain rfl : i = vs.length := Nat.le_antisymm hi (Nat.not_lt.mp hlt2)
        refine W.done _ _ _ hst' fun h₂ tk₂ hk₂ => ?_
        have N₂ : News h₀ L h₂ ((D, lst ys) :: (made ++ news)) := news_but N' hk₂ fun p hp => by
          rcases List.mem_cons.mp hp with rfl | hp
          · exact Ne.symm nID
          · exact (off' p hp).1
        refine ⟨m', hn'.at' fun o e => hk₂ _ o (by simpa using Ne.symm nIC) e, fun h'' hs'' => ?_⟩
        refine fin D ys made h'' tk₂ hR ((fr_but F' hk₂ hIL hI₀).change hs'' hCL hC₀) (fun p hp => ?_) fun p hp => (off' p hp).2.2
        refine ⟨hs''.extBut _ _ ?_ (N₂ p hp).1, (N₂ p hp).2⟩
        rcases List.mem_cons.mp hp with rfl | hp
        · exact nDC
        · exact (off' p hp).2.1
    · rcases List.mem_cons.mp hp with rfl | hp
      · exact ⟨hacc, hDL, hD₀⟩
      · exact ⟨old _ _ (N p hp).1, (N p hp).2⟩
  exact codeAny_compStart_list (loop _ rfl) (W.self 0 _ _ _ hst₁ (loop _ rfl))
end

section
open PySem.Builtin PySem.Builtin.Str
theorem block_ne {cols : Int} {rs ls : List Str} (h : Block cols rs ls) (e : rs ≠ []) : ls ≠ [] := by
  cases h with
  | nil => exact absurd rfl e
  | row r _ => simp
  | rem x _ _ => simp
theorem laid_ne {cols cont : Int} {cs : List Str} {ws : List (Int × Int × Str)} (h : Laid cols cont cs ws) (hw : ws ≠ []) : cs ≠ [] := by
  cases h with
  | nil => exact absurd rfl hw
  | more hL h0 h1 hx hn hB =>
    intro e
    exact block_ne hB (List.cons_ne_nil _ _) (List.append_eq_nil_iff.mp e).2
theorem sum_le {c : Nat} : ∀ {ls : List Str}, (∀ l ∈ ls, l.length ≤ c) → (ls.map (·.length)).sum ≤ ls.length * c
  | [], _ => by simp
  | a :: r, h => by
    rw [List.map_cons, List.sum_cons, List.length_cons, Nat.add_mul, Nat.one_mul]
    have h1 := h a (.head _)
    have h2 := sum_le (ls := r) fun l hl => h l (.tail _ hl)
    omega
theorem join_le {ls : List Str} (h : ∀ l ∈ ls, Clean l) : (Txt.join "\n" ls).length ≤ ls.length * 81 := by
  have e : Txt.join "\n" ls = PySem.Str.join "\n" ls := StrLaws.glued_eq_join _ _
  rw [e]
  have h1 := StrLaws.join_length_le "\n" ls
  have h2 := sum_le fun l hl => (h l hl).2
  have h3 : ("\n" : Str).length = 1 := by decide +kernel
  rw [h3] at h1
  omega
/-- what a reader wants of a text, and what it gives back -/
structure ReadOk (cols cont : Int) (x : Str) (rs : List Str) (z : Str) (cds : List Cd) (ts : List Trip) : Prop where
  hx : x.length ≤ 100000
  hs : Txt.split x "\n" = rs ++ [z]
  hrl : rs.length ≤ 100000
  hrx : ∀ r ∈ rowsIn rs z, r.length ≤ 1000
  hcd : readCards cols (numFrom 0 (rowsIn rs z)) = cds
  hsz : ∀ c ∈ cds, c.label.length ≤ 1000 ∧ c.body.length ≤ 100
  hn : cds.length ≤ 1000
  hok : ∀ (i : Nat) c, cds[i]? = some c → okS cont (cols - 6) (foldS (cols - 6) (cds.take i)) c
  hfin : okJoin (cols - 6) (foldS (cols - 6) cds).2
  he : endS (cols - 6) (foldS (cols - 6) cds) = ts
theorem readCards_le (cols : Int) (rs : List Str) (k : Nat) : (readCards cols (numFrom k rs)).length ≤ rs.length := by
  unfold readCards
  rw [List.length_map]
  exact Nat.le_trans (List.length_filter_le _ _) (Nat.le_of_eq (numFrom_length _ _))
theorem cols_W {cols : Int} (hc : 8 ≤ cols ∧ cols ≤ 60) : ∃ W : Nat, cols = (W : Int) + 6 ∧ cols - 6 = (W : Int) ∧ 2 ≤ W ∧ W ≤ 54 := ⟨(cols - 6).toNat, by omega, by omega, by omega, by omega⟩
theorem told_ok {cols cont : Int} {cs : List Str} {ws : List (Int × Int × Str)} (hc : 8 ≤ cols ∧ cols ≤ 60) (h : Laid cols cont cs ws) (hw : ws ≠ []) (hl : cs.length ≤ 100) :
    ∃ cds ts, ReadOk cols cont (Txt.join "\n" cs ++ "\n") cs "" cds ts ∧ ts.map (fun q => (q.1, q.2.1, Txt.rstripChars q.2.2 " ")) = ws ∧ (∀ q ∈ ts, q.2.2.length ≤ 1000) ∧ ((cs.map (·.length)).sum + cs.length ≤ 10000) ∧ (Txt.join "\n" cs).length ≤ 10000 := by
  obtain ⟨W, rfl, e, hW, hW2⟩ := cols_W hc
  obtain ⟨⟨gs, e1, e2, e3, e4, e6⟩, e5⟩ := laid_read hW hW2 h
  obtain ⟨k1, k2, k3⟩ := groups_read e2
  have h1 : rowsIn cs "" = cs := by unfold rowsIn; rw [if_pos (by decide +kernel)]
  have h2 := join_le e5
  have h3 := sum_le fun l hl => (e5 l hl).2
  have h4 : (Txt.join "\n" cs ++ "\n").length = (Txt.join "\n" cs).length + 1 := by
    rw [Str.length_append, show ("\n" : Str).length = 1 by decide +kernel]
  refine ⟨_, _, ⟨by omega, split_lines2 (laid_ne h hw) e5, by omega, ?_, by rw [h1]; exact e1, e4, ?_, ?_, ?_, by rw [e]; exact k3⟩, e3, e6, by omega, by omega⟩
  · rw [h1]; exact fun r hr => Nat.le_trans (e5 r hr).2 (by decide)
  · rw [← e1]
    exact Nat.le_trans (readCards_le _ _ _) (by omega)
  · rw [e]; exact k1
  · rw [e]; exact k2
theorem plain_ok {cols cont : Int} {ps : List (Int × Str)} (hc : 8 ≤ cols ∧ cols ≤ 60) (hp : ∀ p ∈ ps, okP cols cont p) (hps : ps ≠ []) (hl : ps.length ≤ 3) :
    ∃ rs z cds ts, ReadOk cols cont (Txt.join "\n" (ps.flatMap fun p => rowsOf p.1 p.2 (cols - 5 - 1))) rs z cds ts ∧ ts.map (fun q => q.2) = ps ∧ (((ps.flatMap fun p => rowsOf p.1 p.2 (cols - 5 - 1)).map (·.length)).sum + (ps.flatMap fun p => rowsOf p.1 p.2 (cols - 5 - 1)).length ≤ 100000) := by
  obtain ⟨W, rfl, e, hW, hW2⟩ := cols_W hc
  obtain ⟨⟨gs, e1, e2, e3, e4⟩, e5, e6⟩ := plain_read hW hW2 hp 0
  have hne : (ps.flatMap fun p => rowsOf p.1 p.2 ((W : Int) + 6 - 5 - 1)) ≠ [] := by
    cases ps with
    | nil => exact absurd rfl hps
    | cons p r => rw [List.flatMap_cons]; unfold rowsOf; simp
  generalize (ps.flatMap fun p => rowsOf p.1 p.2 ((W : Int) + 6 - 5 - 1)) = ls at *
  obtain ⟨rs, z, rfl⟩ : ∃ rs z, ls = rs ++ [z] := ⟨ls.dropLast, ls.getLast hne, (List.dropLast_concat_getLast hne).symm⟩
  have hcl : ∀ l ∈ rs ++ [z], Clean l := fun l hl => (e5 l hl).1
  obtain ⟨k1, k2, k3⟩ := groups_read e2
  have hz := (e5 z (by simp)).2
  have h1 : rowsIn rs z = rs ++ [z] := by
    unfold rowsIn
    rw [if_neg]
    intro q
    rw [eq_of_beq q] at hz
    revert hz
    decide +kernel
  have h2 := join_le hcl
  have h3 := sum_le fun l hl => (hcl l hl).2
  have h5 : (rs ++ [z]).length = rs.length + 1 := by simp
  refine ⟨rs, z, _, _, ⟨by omega, split_lines (by simp) hcl, by omega, ?_, by rw [h1]; exact e1, e4, ?_, ?_, ?_, by rw [e]; exact k3⟩, e3, by omega⟩
  · rw [h1]; exact fun r hr => Nat.le_trans (hcl r hr).2 (by decide)
  · rw [← e1]
    exact Nat.le_trans (readCards_le _ _ _) (by omega)
  · rw [e]; exact k1
  · rw [e]; exact k2
theorem okText_strOk {x : Str} (h : okText x) : PyData.strOk x = true := by
  rcases h with ⟨mid, rfl, _, h2⟩ | rfl
  · unfold PyData.strOk
    rw [List.all_toArray, List.all_eq_true]
    intro c hc
    rcases List.mem_append.mp hc with hc | hc
    · rcases List.mem_cons.mp hc with rfl | hc
      · decide
      · have := (h2 c hc).2
        exact decide_eq_true (by omega)
    · rw [List.mem_singleton.mp hc]; decide
  · decide +kernel
theorem laid_kqd {cols cont : Int} {cs : List Str} {ws : List (Int × Int × Str)} (h : Laid cols cont cs ws) : ∀ d ∈ ws.map tripD, kqdOk 8 d = true := by
  intro d hd
  obtain ⟨q, hq, rfl⟩ := List.mem_map.mp hd
  have := okText_strOk (laid_ok h q hq).2.2.1
  simp [tripD, kqdOk, this]
theorem pairs_kqd {cols cont : Int} {ps : List (Int × Str)} (h : ∀ p ∈ ps, okP cols cont p) : ∀ d ∈ ps.map pairD, kqdOk 8 d = true := by
  intro d hd
  obtain ⟨q, hq, rfl⟩ := List.mem_map.mp hd
  have := okText_strOk (h q hq).2.2.1
  simp [pairD, kqdOk, this]
end
set_option maxHeartbeats 4000000 in
theorem rs_r {w : World} {mean : ExcName → Option Value} {mg mb : Str → Option Value} {dp un : Nat} {gd : Option (List Code)} {cn : Str} {cs : Scope} {a : Addr} {ccd : Value} {cl : List (Str × Addr)} {outer : List Env} {A₀ : Around} {base h₀ : Heap} {L : Addr} {m : Str → Option Value} {s : Shared} {Q E : Value → Shared → Prop} {x : Str} {tx : Tok} {rs : List Str} {z : Str} {v : Value} {cds : List Cd} {ts : List Trip} {cont cols : Int} {news nl : List (Addr × Obj)}
    (B : Below A₀ base outer h₀) (F : Fr h₀ L s.heap m) (X : (K0 w.params).In h₀) (T : Top V0 (looseW V0 []) mean mg mb h₀) (hk : cs.kind = .function) (N : News h₀ L s.heap news) (hlim : IsLim w nl v cont cols) (hsl : ∀ p ∈ nl, p ∈ news) (R : ReadOk cols cont x rs z cds ts) (hc : 8 ≤ cols ∧ cols ≤ 60) (hcn : 0 ≤ cont ∧ cont ≤ 1000) (hd' : dp + 7 < recursionLimit) (hu : un + 70 < cLine)
    (hret : ∀ (l : Addr) (vs : List Value) nn tl h' tk', (∀ q ∈ (l, listOf vs.toArray nn) :: tl, ∀ p ∈ news, p.1 < q.1) → DatAll tl vs (ts.map tripD) → Fr h₀ L h' m → News h₀ L h' ((l, listOf vs.toArray nn) :: (tl ++ news)) → Q (.ref l) { s with heap := h', toks := tk' }) :
    wpAny (model PySem.Challenge.rw_no0235_01.row.prog w) (ktrTop dp un gd cn cs L a ccd cl outer) (call (.ref 187) [.str x tx, v]) Q E s := by
  obtain ⟨h1, h2, h3, h4, h5, h6, h7, h8, h9, rfl⟩ := R
  exact rs_c B F X T hk N hlim hsl h1 h2 h3 h4 h5 h6 h7 h8 h9 hc hcn hd' hu hret

def lawDef : Stmt := (PySem.Challenge.pw_no0235_01.main.body.getLast?).getD (.Pass ⟨0, 0, 0, 0⟩)
def lawBody : List Stmt := bodyOf lawDef
def turnBody : List Stmt := bodyOf (lawBody.getD 7 (.Pass ⟨0, 0, 0, 0⟩))
def rowBody : List Stmt := bodyOf (turnBody.getD 7 (.Pass ⟨0, 0, 0, 0⟩))
def moreBody : List Stmt := bodyOf (rowBody.getD 1 (.Pass ⟨0, 0, 0, 0⟩))
def endBody : List Stmt := lawBody.drop 8
theorem getD_rem {v : Int} (h0 : 0 ≤ v) (h1 : v < 6) : remarks.getD v.toNat "" ∈ remarks := by
  have : v.toNat < remarks.length := by show _ < 6; omega
  rw [List.getD_eq_getElem?_getD, List.getElem?_eq_getElem this]
  exact List.getElem_mem this
set_option maxHeartbeats 4000000 in
theorem more_T {w : World} {mean : ExcName → Option Value} {mg mb : Str → Option Value} {dp un : Nat} {gd : Option (List Code)} {cn : Str} {cs : Scope} {a : Addr} {ccd : Value} {A₀ : Around} {base h₀ : Heap} {L : Addr} {m : Str → Option Value} {s : Shared} {Q : Flow → Shared → Prop} {E : Value → Shared → Prop} {body : List Stmt} {itr lc lt tD : Addr} {us vI : List Value} {nn : Nat} {at_ vm : Int} {t0 ta tb tc : Tok} {ns : List Int} {tl : List (Addr × Obj)} {ks ls rs : List Str} {r : Str} {cols : Int} {q : Pos}
    (hcs : scopeOf lawDef = some cs) (hbody : moreBody = body)
    (B : Below A₀ base [] h₀) (F : Fr h₀ L s.heap m) (X : (K0 w.params).In h₀) (T : Top V0 (looseW V0 []) mean mg mb h₀) (hk : cs.kind = .function) (hmc : m "card" = some (.ref lc)) (hmt : m "tape" = some (.ref lt)) (N : News h₀ L s.heap ((lc, listOf us.toArray nn) :: (lt, listOf #[.ref tD, .int at_ t0] 0) :: (tD, listOf vI.toArray 0) :: tl))
    (hr : IsRange s.heap itr 0 vm 1 ta tb tc) (hv0 : 0 ≤ vm) (hv1 : vm < 3) (n1 : lc ≠ lt) (n2 : tD ≠ lc) (n3 : tD ≠ lt) (n4 : ∀ p ∈ tl, p.1 ≠ lc) (n5 : ∀ p ∈ tl, p.1 ≠ lt)
    (hI : IntsAre vI ns) (hns : ns.length ≤ 63) (hS : StrsAre us (ks ++ ls)) (hB : Block cols (rs ++ [r]) ls) (ha0 : 0 ≤ at_) (ha1 : at_ ≤ 1000) (hul : us.length ≤ 1000) (hE : PassesOwn (model PySem.Challenge.rw_no0235_01.row.prog w) (ktrTop dp un gd cn cs L a ccd [] []) (envX cn cs L a ccd []) E) (hd' : dp + 3 < recursionLimit) (hu : un + 32 < cLine)
    (hret : ∀ (u : Str → Option Value) ls' us' nn' at' t' h' tk', s.toks ≤ tk' → StrsAre us' (ks ++ ls') → Block cols (rs ++ [r]) ls' → 0 ≤ at' → at' ≤ at_ + 2 → ls'.length ≤ ls.length + 2 →
      Fr h₀ L h' (kstB (fun z => if [Str.ofString "more"].contains z then u z else m z) [(Str.ofString "card", .ref lc), (Str.ofString "tape", .ref lt)]) → News h₀ L h' ((lc, listOf us'.toArray nn') :: (lt, listOf #[.ref tD, .int at' t'] 0) :: (tD, listOf vI.toArray 0) :: tl) → Q .next { s with heap := h', toks := tk' }) :
    let target := Expr.Name "more" q
    wpAny (model PySem.Challenge.rw_no0235_01.row.prog w) (ktrTop dp un gd cn cs L a ccd [] []) (pyIter (.ref itr)) (fun it s₂ => LoopT PySem.Challenge.rw_no0235_01.row.prog w (ktrTop dp un gd cn cs L a ccd [] []) (envX cn cs L a ccd []) target body Q E it s₂) E s := by
  intro target
  revert X; k_fill; intro X; w_top off
  conv at hbody => lhs; whnf
  conv at hcs => lhs; whnf
  obtain rfl := Option.some.inj hcs
  subst hbody
  have hsl := hS.length
  replace n1 := neN n1
  replace n2 := neN n2
  replace n3 := neN n3
  rw [List.length_append] at hsl
  refine' range0_M (σ := MoreSt) [Str.ofString "more"] (fun _ => [(Str.ofString "card", .ref lc), (Str.ofString "tape", .ref lt)])
    (fun c => (lc, listOf c.vs.toArray c.nn) :: (lt, listOf #[.ref tD, .int c.at_ c.t0] 0) :: (tD, listOf vI.toArray 0) :: tl)
    (fun k c => StrsAre c.vs (ks ++ c.ls) ∧ Block cols (rs ++ [r]) c.ls ∧ (0 ≤ c.at_ ∧ c.at_ ≤ at_ + k) ∧ c.ls.length ≤ ls.length + k)
    (by with_unfolding_all rfl) hr (by omega) (by omega) F N ?startM ?turnM ?doneM hE
  case startM => exact ⟨⟨ls, us, nn, at_, t0⟩, fun p hp => hp, List.forall_mem_cons.mpr ⟨hmc, List.forall_mem_cons.mpr ⟨hmt, List.forall_mem_nil _⟩⟩, hS, hB, ⟨ha0, by dsimp only; omega⟩, by dsimp only; omega⟩
  case turnM =>
    intro k tm cZ2 u h tk I oI hk htk cZ10 hI2 F2 N2
    (try k_fold)
    obtain ⟨ls2, us2, nn2, at2, t02⟩ := cZ2
    obtain ⟨hS2, hB2, ⟨ha02, ha12⟩, hl2⟩ := cZ10
    dsimp only at hS2 hB2 ha02 ha12 hl2 hI2 F2 N2
    have hus2 := hS2.length
    rw [List.length_append] at hus2
    have g1 := neN (show lc ≠ I from hI2 _ (.head _))
    have g2 := neN (show lt ≠ I from hI2 _ (.tail _ (.head _)))
    have g3 := neN (show tD ≠ I from hI2 _ (.tail _ (.tail _ (.head _))))
    have g4 : ∀ p ∈ tl, p.1 ≠ I := fun p hp => hI2 p (.tail _ (.tail _ (.tail _ hp)))
    (try k_fold)
    k_steps
    rename Fr h₀ L _ _ => F9
    rename News h₀ L _ _ => N9
    k_dflt (refine' itemS (ys := remarks) N9 (.head _) (.cons _ _ (.cons _ _ (.cons _ _ (.cons _ _ (.cons _ _ (.cons _ _ .nil)))))) (by assumption) (by show _ < 6; assumption) (by omega) ?_)
    intro t9
    have hr9 := getD_rem (by assumption) (by assumption)
    k_steps
    rename Fr h₀ L _ _ => F8
    rename News h₀ L _ _ => N8
    obtain ⟨x9, t8, l9, o9, hr8, N8⟩ : ∃ (x9 : Str) (t8 : Tok) (l9 : Addr) (o9 : Obj), x9 ∈ remarks ∧ News _ _ _ ((l9, o9) :: (I, oI) :: (lc, listOf (us2.toArray.push (Value.str x9 t9)) (nn2 + 1)) :: (lt, listOf #[.ref tD, .int (at2 + 1) t8] 0) :: (tD, listOf vI.toArray 0) :: tl) := ⟨_, _, _, _, hr9, N8⟩
    refine EndM.intro ⟨ls2 ++ [x9], us2 ++ [Value.str x9 t9], nn2 + 1, at2 + 1, t8⟩ F8 N8 ⟨List.forall_mem_cons.mpr ⟨rfl, List.forall_mem_cons.mpr ⟨rfl, List.forall_mem_nil _⟩⟩, ?_⟩ ⟨?_, .rem _ hB2 hr8, ⟨by dsimp only; omega, by dsimp only; omega⟩, ?_⟩ (List.forall_mem_cons.mpr ⟨.tail _ (.head _), List.forall_mem_nil _⟩) (sub_skip (sub_skip ?_)) (off_same fun p hp => ?_)
    · (intro z h2 h3; simp only [List.forall_mem_cons, List.not_mem_nil, false_implies, implies_true, and_true, ne_eq] at h2; simp only [List.contains_cons, List.contains_nil, Bool.or_false, Bool.or_eq_false_iff, beq_eq_false_iff_ne, ne_eq] at h3; simp [kstB, List.contains_cons, h2, h3])
    · dsimp only
      rw [← List.append_assoc]
      exact hS2.append' (.cons _ _ .nil)
    · dsimp only
      rw [List.length_append, List.length_singleton]; omega
    · exact sub_push
    · exact (off_cons g1 (off_cons g2 (off_cons g3 g4))) p hp
  case doneM =>
    rintro ⟨ls2, us2, nn2, at2, t02⟩ u h tk htk ⟨hS2, hB2, ⟨ha02, ha12⟩, hl2⟩ F2 N2
    dsimp only at hS2 hB2 ha02 ha12 hl2 F2 N2
    exact hret u ls2 us2 nn2 at2 t02 h tk htk hS2 hB2 ha02 (by omega) (by omega) F2 N2

set_option maxHeartbeats 4000000 in
theorem rows_T {w : World} {mean : ExcName → Option Value} {mg mb : Str → Option Value} {dp un : Nat} {gd : Option (List Code)} {cn : Str} {cs : Scope} {a : Addr} {ccd : Value} {A₀ : Around} {base h₀ : Heap} {L : Addr} {m : Str → Option Value} {s : Shared} {Q : Flow → Shared → Prop} {E : Value → Shared → Prop} {body : List Stmt} {itr lc lt tD : Addr} {us vr vI : List Value} {nn nr : Nat} {at_ label cols : Int} {t0 tc : Tok} {ns : List Int} {tl : List (Addr × Obj)} {ks : List Str} {x : Str} {q : Pos}
    (hcs : scopeOf lawDef = some cs) (hbody : rowBody = body)
    (B : Below A₀ base [] h₀) (F : Fr h₀ L s.heap m) (X : (K0 w.params).In h₀) (T : Top V0 (looseW V0 []) mean mg mb h₀) (hk : cs.kind = .function) (hmc : m "card" = some (.ref lc)) (hmt : m "tape" = some (.ref lt)) (hmk : m "columns" = some (.int cols tc))
    (N : News h₀ L s.heap ((lc, listOf us.toArray nn) :: (lt, listOf #[.ref tD, .int at_ t0] 0) :: (tD, listOf vI.toArray 0) :: (itr, listOf vr.toArray nr) :: tl))
    (n1 : lt ≠ lc) (n2 : tD ≠ lc) (n3 : itr ≠ lc) (n4 : ∀ p ∈ tl, p.1 ≠ lc) (n5 : tD ≠ lt) (n6 : itr ≠ lt) (n7 : ∀ p ∈ tl, p.1 ≠ lt)
    (hI : IntsAre vI ns) (hns : ns.length ≤ 63) (hS : StrsAre us ks) (hSr : StrsAre vr (rowsOf label x (cols - 5 - 1))) (hl0 : 0 ≤ label) (hl1 : label < 100000) (hx : okText x) (hc0 : 8 ≤ cols) (hc1 : cols ≤ 60)
    (ha0 : 0 ≤ at_) (ha1 : at_ ≤ 500) (hul : us.length ≤ 500) (hvr : vr.length ≤ 10) (hE : PassesOwn (model PySem.Challenge.rw_no0235_01.row.prog w) (ktrTop dp un gd cn cs L a ccd [] []) (envX cn cs L a ccd []) E) (hd' : dp + 4 < recursionLimit) (hu : un + 40 < cLine)
    (hret : ∀ (u : Str → Option Value) lc' ls us' nn' at' t' h' tk', s.toks ≤ tk' → StrsAre us' (ks ++ ls) → Block cols (rowsOf label x (cols - 5 - 1)) ls → 0 ≤ at' → at' ≤ at_ + 30 → ls.length ≤ 30 → lt ≠ lc' → tD ≠ lc' → itr ≠ lc' → (∀ p ∈ tl, p.1 ≠ lc') →
      Fr h₀ L h' (kstB (fun z => if [Str.ofString "row", Str.ofString "more"].contains z then u z else m z) [(Str.ofString "card", .ref lc'), (Str.ofString "tape", .ref lt), (Str.ofString "columns", .int cols tc)]) →
      News h₀ L h' ((lc', listOf us'.toArray nn') :: (lt, listOf #[.ref tD, .int at' t'] 0) :: (tD, listOf vI.toArray 0) :: (itr, listOf vr.toArray nr) :: tl) → Q .next { s with heap := h', toks := tk' }) :
    let target := Expr.Name "row" q
    wpAny (model PySem.Challenge.rw_no0235_01.row.prog w) (ktrTop dp un gd cn cs L a ccd [] []) (pyIter (.ref itr)) (fun it s₂ => LoopT PySem.Challenge.rw_no0235_01.row.prog w (ktrTop dp un gd cn cs L a ccd [] []) (envX cn cs L a ccd []) target body Q E it s₂) E s := by
  intro target
  revert X; k_fill; intro X; w_top off
  have hcs0 := hcs
  conv at hbody => lhs; whnf
  conv at hcs => lhs; whnf
  obtain rfl := Option.some.inj hcs
  subst hbody
  have hsl := hS.length
  have hxl := okText.length hx
  replace n1 := neN n1
  replace n2 := neN n2
  replace n3 := neN n3
  replace n5 := neN n5
  replace n6 := neN n6
  refine' list_M (σ := RowSt) [Str.ofString "row", Str.ofString "more"] (fun c => [(Str.ofString "card", .ref c.lc), (Str.ofString "tape", .ref lt), (Str.ofString "columns", .int cols tc)])
    (fun c => (c.lc, listOf c.vs.toArray c.nn) :: (lt, listOf #[.ref tD, .int c.at_ c.t0] 0) :: (tD, listOf vI.toArray 0) :: (itr, listOf vr.toArray nr) :: tl)
    (fun j c => StrsAre c.vs (ks ++ c.ls) ∧ Block cols ((rowsOf label x (cols - 5 - 1)).take j) c.ls ∧ (0 ≤ c.at_ ∧ c.at_ ≤ at_ + 3 * j) ∧ c.ls.length ≤ 3 * j ∧
      (nne lt c.lc ∧ nne tD c.lc ∧ nne itr c.lc) ∧ (∀ p ∈ tl, p.1 ≠ c.lc)) (by with_unfolding_all rfl) F N (.tail _ (.tail _ (.tail _ (.head _)))) (fun c => .tail _ (.tail _ (.tail _ (.head _)))) ?startR ?turnR ?doneR hE
  case startR => exact ⟨⟨[], us, nn, lc, at_, t0⟩, fun p hp => hp, List.forall_mem_cons.mpr ⟨hmc, List.forall_mem_cons.mpr ⟨hmt, List.forall_mem_cons.mpr ⟨hmk, List.forall_mem_nil _⟩⟩⟩, by rw [List.append_nil]; exact hS, .nil, ⟨ha0, by dsimp only; omega⟩, Nat.zero_le _, ⟨n1, n2, n3⟩, n4⟩
  case turnR =>
    intro j v9 cZ2 u h tk I oI hj htk cZ10 hI2 F2 N2
    (try k_fold)
    obtain ⟨ls, us2, nn2, lc2, at2, t02⟩ := cZ2
    obtain ⟨hS2, hB2, ⟨ha02, ha12⟩, hl2, ⟨d1, d2, d3⟩, d4⟩ := cZ10
    dsimp only [nne] at hS2 hB2 ha02 ha12 hl2 d1 d2 d3 d4 hI2 F2 N2
    obtain ⟨r, tr, hvr9, hrr9⟩ := hSr.item j _ hj
    subst hvr9
    obtain ⟨hr6, hrc9, -⟩ := row_facts hl0 hl1 hxl.1 ⟨hc0, hc1⟩ hrr9
    have hjl : j < vr.length := (List.getElem?_eq_some_iff.mp hj).1
    have hj10 : j < 10 := by omega
    have hus2 := hS2.length
    rw [List.length_append] at hus2
    have g1 := neN (show lc2 ≠ I from hI2 _ (.head _))
    have g2 := neN (show lt ≠ I from hI2 _ (.tail _ (.head _)))
    have g3 := neN (show tD ≠ I from hI2 _ (.tail _ (.tail _ (.head _))))
    have g4 := neN (show itr ≠ I from hI2 _ (.tail _ (.tail _ (.tail _ (.head _)))))
    have g5 : ∀ p ∈ tl, p.1 ≠ I := fun p hp => hI2 p (.tail _ (.tail _ (.tail _ (.tail _ hp))))
    (try k_fold)
    k_steps
    (try k_fold)
    rename Fr h₀ L _ _ => F8
    rename News h₀ L _ _ => N8
    rename IsRange _ _ _ _ _ _ _ _ => hR8
    obtain ⟨cA, sA, tA, t8, vm, rfl, hR9, hv0, hv1, ⟨-, l1, l2, l3, l4, l5, l6⟩, N9⟩ : ∃ (cA sA : Addr) (tA t8 : Tok) (vm : Int), cA = _ ∧ IsRange _ _ 0 vm 1 _ _ _ ∧ 0 ≤ vm ∧ vm < 3 ∧ (sA < cA ∧ I < cA ∧ lc2 < cA ∧ lt < cA ∧ tD < cA ∧ itr < cA ∧ AllLt cA tl) ∧
      News _ _ _ ((cA, listOf (us2 ++ [Value.str (padRow cols r) tA]).toArray 0) :: (sA, listOf #[Value.str (padRow cols r) tA] 0) :: (I, oI) :: (lc2, listOf us2.toArray nn2) :: (lt, listOf #[.ref tD, .int (at2 + 1) t8] 0) :: (tD, listOf vI.toArray 0) :: (itr, listOf vr.toArray nr) :: tl) :=
      ⟨_, _, _, _, _, rfl, hR8, by assumption, by assumption, by assumption, N8⟩
    replace l6 := ktn_ltOf l6
    have hpr : Block cols ((rowsOf label x (cols - 5 - 1)).take j ++ [r]) (ls ++ [padRow cols r]) := .row r hB2
    have e1 : (rowsOf label x (cols - 5 - 1)).take j ++ [r] = (rowsOf label x (cols - 5 - 1)).take (j + 1) := by rw [List.take_add_one, hrr9]; rfl
    refine more_T (lc := cA) (us := us2 ++ [Value.str (padRow cols r) tA]) (nn := 0) (at_ := at2 + 1) (t0 := t8) (ks := ks) (ls := ls ++ [padRow cols r]) (tl := (I, oI) :: (itr, listOf vr.toArray nr) :: tl) hcs0 (by with_unfolding_all rfl) B F8 X T hk rfl rfl (newsSub N9 ?sub) hR9 hv0 hv1 (Nat.ne_of_gt l3) (Nat.ne_of_lt l4) n5
      (List.forall_mem_cons.mpr ⟨Nat.ne_of_lt l1, List.forall_mem_cons.mpr ⟨Nat.ne_of_lt l5, fun p hp => Nat.ne_of_lt (l6 p hp)⟩⟩) (List.forall_mem_cons.mpr ⟨Ne.symm g2, List.forall_mem_cons.mpr ⟨n6, n7⟩⟩) hI hns ?hS9 hpr (by omega) (by omega) ?hul9 hE ?hd9 ?hu9 ?ret9
    case hd9 => ktr_room
    case hu9 => ktr_units
    case sub => exact (sub_cons (by k_mem) (sub_cons (by k_mem) (sub_cons (by k_mem) (sub_cons (by k_mem) (sub_cons (by k_mem) (fun p hp => .tail _ (.tail _ (.tail _ (.tail _ (.tail _ (.tail _ (.tail _ (hp)))))))))))))
    case hS9 =>
      rw [← List.append_assoc]
      exact hS2.append' (.cons _ _ .nil)
    case hul9 => rw [List.length_append, List.length_singleton]; omega
    case ret9 =>
      intro u3 ls3 us3 nn3 at3 t3 h3 tk3 _ hS3 hB3 ha03 ha13 hl3 F3 N3
      rw [List.length_append, List.length_singleton] at hl3
      dsimp only
      k_steps
      refine EndM.intro ⟨ls3, us3, nn3, cA, at3, t3⟩ F3 N3 ⟨List.forall_mem_cons.mpr ⟨rfl, List.forall_mem_cons.mpr ⟨rfl, List.forall_mem_cons.mpr ⟨rfl, List.forall_mem_nil _⟩⟩⟩, ?_⟩ ⟨hS3, e1 ▸ hB3, ⟨ha03, by dsimp only; omega⟩, by dsimp only; omega, ⟨Nat.ne_of_lt l3, Nat.ne_of_lt l4, Nat.ne_of_lt l5⟩, fun p hp => Nat.ne_of_lt (l6 p hp)⟩
        (List.forall_mem_cons.mpr ⟨.tail _ (.tail _ (.tail _ (.head _))), List.forall_mem_nil _⟩) (sub_head (sub_head (sub_head (sub_skip sub_refl)))) (off_same fun p hp => ?_)
      · (intro z h2 h3; simp only [List.forall_mem_cons, List.not_mem_nil, false_implies, implies_true, and_true, ne_eq] at h2; simp only [List.contains_cons, List.contains_nil, Bool.or_false, Bool.or_eq_false_iff, beq_eq_false_iff_ne, ne_eq] at h3; simp [kstB, List.contains_cons, h2, h3])
      · exact (off_cons (Nat.ne_of_gt l1) (off_cons g2 (off_cons g3 (off_cons g4 g5)))) p hp
  case doneR =>
    rintro ⟨ls2, us2, nn2, lc2, at2, t02⟩ u h tk htk ⟨hS2, hB2, ⟨ha02, ha12⟩, hl2, ⟨d1, d2, d3⟩, d4⟩ F2 N2
    dsimp only [nne] at hS2 hB2 ha02 ha12 hl2 d1 d2 d3 d4 F2 N2
    have hvl := hSr.length
    rw [hvl, List.take_length] at hB2
    exact hret u lc2 ls2 us2 nn2 at2 t02 h tk htk hS2 hB2 ha02 (by omega) (by omega) d1 d2 d3 d4 F2 N2

theorem snoc_trip {tl : List (Addr × Obj)} {vw : List Value} {ws : List (Int × Int × Str)} {D1 : Addr} {e : Addr × Obj} {k n lab : Int} {x : Str} {tC tD tE : Tok} (h : DatAll tl vw (ws.map tripD)) (hk : k = n) :
    DatAll (e :: (D1, { cls := Value.type "tuple", data := Data.seq #[Value.int k tC, Value.int lab tD, Value.str x tE] }) :: tl) (vw ++ [Value.ref D1]) ((ws ++ [(n, lab, x)]).map tripD) := by
  subst hk
  rw [List.map_append]
  exact (h.mono (sub_skip (sub_skip sub_refl))).append (.one (DatIn.tuple (vs := [_, _, _]) (.tail _ (.head _)) (.cons (.int _ _) (.cons (.int _ _) (.cons (.str _ _) .nil)))))
theorem snoc_pair {tl : List (Addr × Obj)} {vp : List Value} {ws : List (Int × Int × Str)} {D2 : Addr} {e : Addr × Obj} {n lab : Int} {x : Str} {tA tB : Tok} (h : DatAll tl vp (ws.map fun q => pairD q.2)) :
    DatAll ((D2, { cls := Value.type "tuple", data := Data.seq #[Value.int lab tA, Value.str x tB] }) :: e :: tl) (vp ++ [Value.ref D2]) ((ws ++ [(n, lab, x)]).map fun q => pairD q.2) := by
  rw [List.map_append]
  exact (h.mono (sub_skip (sub_skip sub_refl))).append (.one (DatIn.tuple (vs := [_, _]) (.head _) (.cons (.int _ _) (.cons (.str _ _) .nil))))
set_option maxHeartbeats 8000000 in
theorem turns_T {w : World} {mean : ExcName → Option Value} {mg mb : Str → Option Value} {dp un : Nat} {gd : Option (List Code)} {cn : Str} {cs : Scope} {a : Addr} {ccd : Value} {A₀ : Around} {base h₀ : Heap} {L : Addr} {m : Str → Option Value} {s : Shared} {Q : Flow → Shared → Prop} {E : Value → Shared → Prop} {body : List Stmt} {itr lc lw lp lt xl dl tD : Addr} {vI : List Value} {count cols cont : Int} {t0 ta tb tc td : Tok} {t1 u1 : T8} {ns : List Int} {q : Pos}
    (hcs : scopeOf lawDef = some cs) (hbody : turnBody = body)
    (B : Below A₀ base [] h₀) (F : Fr h₀ L s.heap m) (X : (K0 w.params).In h₀) (T : Top V0 (looseW V0 []) mean mg mb h₀) (hk : cs.kind = .function) (XB : (K0 w.params).In base) (TB : Top V0 (looseW V0 []) mean mg mb base)
    (hmc : m "card" = some (.ref lc)) (hmw : m "wanted" = some (.ref lw)) (hmp : m "pairs" = some (.ref lp)) (hmt : m "tape" = some (.ref lt)) (hmk : m "columns" = some (.int cols tc)) (hml : m "limits" = some (.ref xl))
    (N : News h₀ L s.heap [(lc, listOf #[] 0), (lw, listOf #[] 0), (lp, listOf #[] 0), (xl, instObj 85 dl), (dl, limDict w 32 7 15 38 100 cont cols 9 t1 u1), (lt, listOf #[.ref tD, .int 3 t0] 0), (tD, listOf vI.toArray 0)])
    (n1 : lw < lc) (n2 : lp < lw) (n3 : xl < lp) (n4 : dl < xl) (n5 : lt < dl) (n6 : tD < lt)
    (hr : IsRange s.heap itr 0 count 1 ta tb td) (hq0 : 0 ≤ count) (hq1 : count ≤ 3) (hI : IntsAre vI ns) (hns : ns.length ≤ 63) (hc0 : 8 ≤ cols) (hc1 : cols ≤ 60) (hv0 : 0 ≤ cont) (hv1 : cont < 10) (hE : PassesOwn (model PySem.Challenge.rw_no0235_01.row.prog w) (ktrTop dp un gd cn cs L a ccd [] []) (envX cn cs L a ccd []) E) (hd' : dp + 12 < recursionLimit) (hu : un + 110 < cLine)
    (hret : ∀ (u : Str → Option Value) (c : LawSt) h' tk', s.toks ≤ tk' → Laid cols cont c.cs c.ws → c.ws.length = count.toNat → StrsAre c.vs c.cs → DatAll c.tl c.vw (c.ws.map tripD) → DatAll c.tl c.vp (c.ws.map fun q => pairD q.2) → c.cs.length ≤ 90 →
      Fr h₀ L h' (kstB (fun z => if [Str.ofString "turn", Str.ofString "label", Str.ofString "text", Str.ofString "rows", Str.ofString "row", Str.ofString "more"].contains z then u z else m z) [(Str.ofString "card", .ref c.lc), (Str.ofString "wanted", .ref lw), (Str.ofString "pairs", .ref lp), (Str.ofString "tape", .ref lt), (Str.ofString "columns", .int cols tc), (Str.ofString "limits", .ref xl)]) →
      News h₀ L h' ((c.lc, listOf c.vs.toArray c.nn) :: (lw, listOf c.vw.toArray c.nw) :: (lp, listOf c.vp.toArray c.np) :: (lt, listOf #[.ref tD, .int c.at_ c.t0] 0) :: (xl, instObj 85 dl) :: (dl, limDict w 32 7 15 38 100 cont cols 9 t1 u1) :: (tD, listOf vI.toArray 0) :: c.tl) → Q .next { s with heap := h', toks := tk' }) :
    let target := Expr.Name "turn" q
    wpAny (model PySem.Challenge.rw_no0235_01.row.prog w) (ktrTop dp un gd cn cs L a ccd [] []) (pyIter (.ref itr)) (fun it s₂ => LoopT PySem.Challenge.rw_no0235_01.row.prog w (ktrTop dp un gd cn cs L a ccd [] []) (envX cn cs L a ccd []) target body Q E it s₂) E s := by
  intro target
  revert X; k_fill; intro X; w_top off
  have hcs0 := hcs
  conv at hbody => lhs; whnf
  conv at hcs => lhs; whnf
  obtain rfl := Option.some.inj hcs
  subst hbody
  replace n1 := ltN n1
  replace n2 := ltN n2
  replace n3 := ltN n3
  replace n4 := ltN n4
  replace n5 := ltN n5
  replace n6 := ltN n6
  have z7 : nne tD lt := by clear hret; unfold nne; omega
  have z8 : nne lw lt := by clear hret; unfold nne; omega
  have z9 : nne lp lt := by clear hret; unfold nne; omega
  have y1 : nne xl lt := by clear hret; unfold nne; omega
  have y2 : nne dl lt := by clear hret; unfold nne; omega
  refine' range0_M (σ := LawSt) [Str.ofString "turn", Str.ofString "label", Str.ofString "text", Str.ofString "rows", Str.ofString "row", Str.ofString "more"] (fun c => [(Str.ofString "card", .ref c.lc), (Str.ofString "wanted", .ref lw), (Str.ofString "pairs", .ref lp), (Str.ofString "tape", .ref lt), (Str.ofString "columns", .int cols tc), (Str.ofString "limits", .ref xl)])
    (fun c => (c.lc, listOf c.vs.toArray c.nn) :: (lw, listOf c.vw.toArray c.nw) :: (lp, listOf c.vp.toArray c.np) :: (lt, listOf #[.ref tD, .int c.at_ c.t0] 0) :: (xl, instObj 85 dl) :: (dl, limDict w 32 7 15 38 100 cont cols 9 t1 u1) :: (tD, listOf vI.toArray 0) :: c.tl)
    (fun i c => Laid cols cont c.cs c.ws ∧ c.ws.length = i ∧ StrsAre c.vs c.cs ∧ DatAll c.tl c.vw (c.ws.map tripD) ∧ DatAll c.tl c.vp (c.ws.map fun q => pairD q.2) ∧ (0 ≤ c.at_ ∧ c.at_ ≤ 3 + 40 * i) ∧ c.cs.length ≤ 30 * i ∧
      (nne lw c.lc ∧ nne lp c.lc ∧ nne lt c.lc ∧ nne xl c.lc ∧ nne dl c.lc ∧ nne tD c.lc) ∧ (∀ p ∈ c.tl, p.1 ≠ c.lc) ∧ (∀ p ∈ c.tl, p.1 ≠ lw) ∧ (∀ p ∈ c.tl, p.1 ≠ lp) ∧ (∀ p ∈ c.tl, p.1 ≠ lt)) (by with_unfolding_all rfl) hr hq0 (by omega) F N ?start ?turn ?done hE
  case start =>
    have q1 : nne lw lc := by unfold nne; omega
    have q2 : nne lp lc := by unfold nne; omega
    have q3 : nne lt lc := by unfold nne; omega
    have q4 : nne xl lc := by unfold nne; omega
    have q5 : nne dl lc := by unfold nne; omega
    have q6 : nne tD lc := by unfold nne; omega
    refine ⟨⟨[], [], 0, lc, 3, t0, [], [], 0, [], 0, []⟩, ?_, List.forall_mem_cons.mpr ⟨hmc, List.forall_mem_cons.mpr ⟨hmw, List.forall_mem_cons.mpr ⟨hmp, List.forall_mem_cons.mpr ⟨hmt, List.forall_mem_cons.mpr ⟨hmk, List.forall_mem_cons.mpr ⟨hml, List.forall_mem_nil _⟩⟩⟩⟩⟩⟩, .nil, rfl, .nil, .nil, .nil, ⟨show (0 : Int) ≤ 3 by decide, show (3 : Int) ≤ 3 + 40 * (0 : Nat) by decide⟩, Nat.zero_le _, ⟨q1, q2, q3, q4, q5, q6⟩, fun _ h => (nomatch h), fun _ h => (nomatch h), fun _ h => (nomatch h), fun _ h => (nomatch h)⟩
    exact (sub_cons (by k_mem) (sub_cons (by k_mem) (sub_cons (by k_mem) (sub_cons (by k_mem) (sub_cons (by k_mem) (sub_cons (by k_mem) (sub_cons (by k_mem) (fun _ h => nomatch h))))))))
  case turn =>
    intro i t' cZ2 u h tk I oI hi htk cZ10 hI2 F3 N3
    (try k_fold)
    obtain ⟨cs, vs, nn, lc2, at2, t02, ws, vw, nw, vp, np, tl⟩ := cZ2
    obtain ⟨hLaid, hwl, hS, hDw, hDp, ⟨ha0, ha1⟩, hcl, ⟨b1, b2, b3, b4, b5, b6⟩, o1, o2, o3, o4⟩ := cZ10
    dsimp only [nne] at hLaid hwl hS hDw hDp ha0 ha1 hcl b1 b2 b3 b4 b5 b6 o1 o2 o3 o4 hI2 F3 N3
    have hvl := hS.length
    have hwv := hDw.length
    have hpv := hDp.length
    rw [List.length_map] at hwv hpv
    have hi3 : i < 3 := by omega
    have f1 := neN (show lc2 ≠ I from hI2 _ (.head _))
    have f2 := neN (show lw ≠ I from hI2 _ (.tail _ (.head _)))
    have f3 := neN (show lp ≠ I from hI2 _ (.tail _ (.tail _ (.head _))))
    have f4 := neN (show lt ≠ I from hI2 _ (.tail _ (.tail _ (.tail _ (.head _)))))
    have f6 : xl ≠ I := hI2 _ (.tail _ (.tail _ (.tail _ (.tail _ (.head _)))))
    have f7 : dl ≠ I := hI2 _ (.tail _ (.tail _ (.tail _ (.tail _ (.tail _ (.head _))))))
    have f8 : tD ≠ I := hI2 _ (.tail _ (.tail _ (.tail _ (.tail _ (.tail _ (.tail _ (.head _)))))))
    have f5 : ∀ p ∈ tl, p.1 ≠ I := fun p hp => hI2 p (.tail _ (.tail _ (.tail _ (.tail _ (.tail _ (.tail _ (.tail _ hp)))))))
    have hlim : IsLim w [(xl, instObj 85 dl), (dl, limDict w 32 7 15 38 100 cont cols 9 t1 u1)] (.ref xl) cont cols := ⟨xl, dl, _, _, _, _, _, _, _, _, rfl, .head _, .tail _ (.head _)⟩
    have hcols : 8 ≤ cols ∧ cols ≤ 60 := ⟨hc0, hc1⟩
    have hcont : 0 ≤ cont ∧ cont ≤ 1000 := ⟨hv0, by omega⟩
    clear hret N F
    (try k_fold)
    k_steps
    all_goals
      (try k_fold)
      rename News _ _ _ _ => N4
      rename Fr _ _ _ _ => F4
      obtain ⟨rl, D1, D2, vr, nr, lab, x, tA, tB, tC, tD', tE, t8, rfl, rfl, rfl, rfl, hlab0, hlab1, hok, hfit, hSr, N5⟩ : ∃ (rl D1 D2 : Addr) (vr : List Value) (nr : Nat) (lab : Int) (x : Str) (tA tB tC tD' tE t8 : Tok), rl = _ ∧ D1 = _ ∧ D2 = _ ∧ vr = _ ∧ 0 ≤ lab ∧ lab < 100000 ∧ okText x ∧ (nCont x (cols - 5 - 1) : Int) ≤ cont ∧ StrsAre vr (rowsOf lab x (cols - 5 - 1)) ∧
        News _ _ _ ((D2, { cls := Value.type "tuple", data := Data.seq #[Value.int lab tA, Value.str x tB] }) :: (D1, { cls := Value.type "tuple", data := Data.seq #[Value.int ((vs.length : Int) + 1) tC, Value.int lab tD', Value.str x tE] }) :: (rl, listOf vr.toArray nr) :: (I, oI) ::
          (lc2, listOf vs.toArray nn) :: (lw, listOf (vw ++ [Value.ref D1]).toArray (nw + 1)) :: (lp, listOf (vp ++ [Value.ref D2]).toArray (np + 1)) :: (lt, listOf #[Value.ref tD, Value.int (at2 + 1 + 1 + 1 + 1) t8] 0) :: (xl, instObj 85 dl) :: (dl, limDict w 32 7 15 38 100 cont cols 9 t1 u1) :: (tD, listOf vI.toArray 0) :: tl) :=
        ⟨_, _, _, _, _, _, _, _, _, _, _, _, _, rfl, rfl, rfl, rfl, by (first | assumption | omega | exact Mine.lab0 (by assumption) (by assumption)), by (first | assumption | omega | exact Mine.lab1 (by assumption) (by assumption) (by assumption) (by assumption)), by first | exact .inl (by assumption) | exact .inr rfl, by first | exact nCont_fit (by omega) (by omega) (by assumption) | exact nCont_Y _ _ (by omega), by assumption, N4⟩
      have hvrl := hSr.length
      have hrl : (rowsOf lab x (cols - 5 - 1)).length = nCont x (cols - 5 - 1) + 1 := by unfold rowsOf; rw [List.length_cons, contRows_length]
      have m0 : I < rl ∧ lc2 < rl ∧ lw < rl ∧ lp < rl ∧ lt < rl ∧ xl < rl ∧ dl < rl ∧ tD < rl ∧ AllLt rl tl := by assumption
      have m1 : rl < D1 ∧ I < D1 ∧ lc2 < D1 ∧ lw < D1 ∧ lp < D1 ∧ lt < D1 ∧ xl < D1 ∧ dl < D1 ∧ tD < D1 ∧ AllLt D1 tl := by assumption
      have m2 : D1 < D2 ∧ rl < D2 ∧ I < D2 ∧ lc2 < D2 ∧ lw < D2 ∧ lp < D2 ∧ lt < D2 ∧ xl < D2 ∧ dl < D2 ∧ tD < D2 ∧ AllLt D2 tl := by assumption
      have z1 : rl ≠ lc2 := Nat.ne_of_gt m0.2.1
      have z2 : D2 ≠ lc2 := Nat.ne_of_gt m2.2.2.2.1
      have z3 : D1 ≠ lc2 := Nat.ne_of_gt m1.2.2.1
      have z4 : rl ≠ lt := Nat.ne_of_gt m0.2.2.2.2.1
      have z5 : D2 ≠ lt := Nat.ne_of_gt m2.2.2.2.2.2.2.1
      have z6 : D1 ≠ lt := Nat.ne_of_gt m1.2.2.2.2.2.1
      have y3 : D2 ≠ lw := Nat.ne_of_gt m2.2.2.2.2.1
      have y4 : D1 ≠ lw := Nat.ne_of_gt m1.2.2.2.1
      have y5 : D2 ≠ lp := Nat.ne_of_gt m2.2.2.2.2.2.1
      have y6 : D1 ≠ lp := Nat.ne_of_gt m1.2.2.2.2.1
      refine rows_T (lc := lc2) (us := vs) (nn := nn) (at_ := at2 + 1 + 1 + 1 + 1) (t0 := t8) (ks := cs) (label := lab) (x := x) (nr := nr) (tl := (D2, { cls := Value.type "tuple", data := Data.seq #[Value.int lab tA, Value.str x tB] }) :: (D1, { cls := Value.type "tuple", data := Data.seq #[Value.int ((vs.length : Int) + 1) tC, Value.int lab tD', Value.str x tE] }) :: (I, oI) :: (lw, listOf (vw ++ [Value.ref D1]).toArray (nw + 1)) :: (lp, listOf (vp ++ [Value.ref D2]).toArray (np + 1)) :: (xl, instObj 85 dl) :: (dl, limDict w 32 7 15 38 100 cont cols 9 t1 u1) :: tl)
        hcs0 (by with_unfolding_all rfl) B F4 X T hk rfl rfl rfl (newsSub N5 ?sub) b3 b6 z1 ?n4 z7 z4 ?n7 hI hns hS hSr hlab0 hlab1 hok hc0 hc1 (by omega) (by omega) (by omega) (by omega) hE ?hd9 ?hu9 ?ret9
      case hd9 => ktr_room
      case hu9 => ktr_units
      case sub => exact (sub_cons (by k_mem) (sub_cons (by k_mem) (sub_cons (by k_mem) (sub_cons (by k_mem) (sub_cons (by k_mem) (sub_cons (by k_mem) (sub_cons (by k_mem) (sub_cons (by k_mem) (sub_cons (by k_mem) (sub_cons (by k_mem) (sub_cons (by k_mem) (fun p hp => .tail _ (.tail _ (.tail _ (.tail _ (.tail _ (.tail _ (.tail _ (.tail _ (.tail _ (.tail _ (.tail _ (hp)))))))))))))))))))))))
      case n4 => exact (off_cons z2 (off_cons z3 (off_cons (Ne.symm f1) (off_cons b1 (off_cons b2 (off_cons b4 (off_cons b5 o1)))))))
      case n7 => exact (off_cons z5 (off_cons z6 (off_cons (Ne.symm f4) (off_cons z8 (off_cons z9 (off_cons y1 (off_cons y2 o4)))))))
      case ret9 =>
        intro u3 lc3 ls us3 nn3 at3 t3 h3 tk3 _ hS3 hB3 ha03 ha13 hl3 e1 e2 e3 e4 F5 N6
        dsimp only
        k_steps
        refine EndM.intro ⟨cs ++ ls, us3, nn3, lc3, at3, t3, ws ++ [((cs.length : Int) + 1, lab, x)], vw ++ [Value.ref D1], nw + 1, vp ++ [Value.ref D2], np + 1, (D2, { cls := Value.type "tuple", data := Data.seq #[Value.int lab tA, Value.str x tB] }) :: (D1, { cls := Value.type "tuple", data := Data.seq #[Value.int ((vs.length : Int) + 1) tC, Value.int lab tD', Value.str x tE] }) :: tl⟩ F5 N6
          ⟨List.forall_mem_cons.mpr ⟨rfl, List.forall_mem_cons.mpr ⟨rfl, List.forall_mem_cons.mpr ⟨rfl, List.forall_mem_cons.mpr ⟨rfl, List.forall_mem_cons.mpr ⟨rfl, List.forall_mem_cons.mpr ⟨rfl, List.forall_mem_nil _⟩⟩⟩⟩⟩⟩, ?same⟩
          ⟨.more hLaid hlab0 hlab1 hok hfit hB3, ?q1, hS3, ?q2, ?q3, ⟨ha03, by dsimp only; omega⟩, ?q4, ⟨e4 _ (.tail _ (.tail _ (.tail _ (.head _)))), e4 _ (.tail _ (.tail _ (.tail _ (.tail _ (.head _))))), e1, e4 _ (.tail _ (.tail _ (.tail _ (.tail _ (.tail _ (.head _)))))), e4 _ (.tail _ (.tail _ (.tail _ (.tail _ (.tail _ (.tail _ (.head _))))))), e2⟩, ?q5, ?q6, ?q7, ?q8⟩
          (List.forall_mem_cons.mpr ⟨?q9, List.forall_mem_nil _⟩) ?q10 (off_same ?q11)
        case same => (intro z h2 h3; simp only [List.forall_mem_cons, List.not_mem_nil, false_implies, implies_true, and_true, ne_eq] at h2; simp only [List.contains_cons, List.contains_nil, Bool.or_false, Bool.or_eq_false_iff, beq_eq_false_iff_ne, ne_eq] at h3; simp [kstB, List.contains_cons, h2, h3])
        case q1 => rw [List.length_append, List.length_singleton, hwl]
        case q2 => exact snoc_trip hDw (by rw [hvl])
        case q3 => exact snoc_pair hDp
        case q4 => dsimp only; rw [List.length_append]; omega
        case q5 => exact fun p hp => e4 p (by
          rcases List.mem_cons.mp hp with rfl | hp
          · exact .head _
          · rcases List.mem_cons.mp hp with rfl | hp
            · exact .tail _ (.head _)
            · exact .tail _ (.tail _ (.tail _ (.tail _ (.tail _ (.tail _ (.tail _ hp)))))))
        case q6 => exact List.forall_mem_cons.mpr ⟨y3, List.forall_mem_cons.mpr ⟨y4, o2⟩⟩
        case q7 => exact List.forall_mem_cons.mpr ⟨y5, List.forall_mem_cons.mpr ⟨y6, o3⟩⟩
        case q8 => exact List.forall_mem_cons.mpr ⟨z5, List.forall_mem_cons.mpr ⟨z6, o4⟩⟩
        case q9 => simp
        case q10 => exact (sub_cons (by k_mem) (sub_cons (by k_mem) (sub_cons (by k_mem) (sub_cons (by k_mem) (sub_cons (by k_mem) (sub_cons (by k_mem) (sub_cons (by k_mem) (sub_cons (by k_mem) (sub_cons (by k_mem) (fun p hp => .tail _ (.tail _ (.tail _ (.tail _ (.tail _ (.tail _ (.tail _ (.tail _ (.tail _ (.tail _ (.tail _ (hp)))))))))))))))))))))
        case q11 => exact (off_cons (Ne.symm (e4 _ (.tail _ (.tail _ (.head _))))) (off_cons f2 (off_cons f3 (off_cons f4 (off_cons f6 (off_cons f7 (off_cons f8 (off_cons (Nat.ne_of_gt m2.2.2.1) (off_cons (Nat.ne_of_gt m1.2.1) f5)))))))))
  case done =>
    rintro c u h tk htk ⟨hLaid, hwl, hS, hDw, hDp, ⟨ha0, ha1⟩, hcl, -, -, -, -, -⟩ F3 N3
    exact hret u c h tk htk hLaid hwl hS hDw hDp (by omega) F3 N3

section
open PyProof.Rows.LCg
variable {prog : Program} {w : World} {A : Around} {E : Value → Shared → Prop} {s : Shared} {h₀ : Heap} {L : Addr} {m : Str → Option Value} {env : Env}
/-- a comprehension's iterable, of one name -/
def Src1 (prog : Program) (w : World) (A : Around) (h₀ : Heap) (L : Addr) (m : Str → Option Value) (env : Env) (elt : Expr) (x1 : Str) (scope : Scope) (cl : List (Str × Addr)) (Q : Value → Shared → Prop) (xv : Value) (s₁ : Shared) : Prop :=
  ∃ (l : Addr) (vs : List Value) (nn : Nat) (news : List (Addr × Obj)) (R : Nat → List Value → List (Addr × Obj) → Prop), xv = .ref l ∧ A.handled = none ∧ Fr h₀ L s₁.heap m ∧ News h₀ L s₁.heap news ∧ (l, listOf vs.toArray nn) ∈ news ∧ vs.length ≤ sizeLine ∧ R 0 [] [] ∧
    (∀ i v, vs[i]? = some v → ∀ ys made I oI C oC D m₂ h tk (E' : Value → Shared → Prop), R i ys made → NsObj oC m₂ → m₂ x1 = some v → Fr h₀ L h m → News h₀ L h (CompLed I oI C oC D ys made news) → (∀ p ∈ made ++ news, p.1 ≠ I ∧ p.1 ≠ C ∧ p.1 ≠ D) → (@Ne Nat I C ∧ @Ne Nat I D ∧ @Ne Nat C D) →
        wpAny (model prog w) A (eval elt (compEnvC scope cl C env)) (Elt h₀ L m { s₁ with heap := h, toks := tk } I oI C oC D ys news (R (i + 1))) E' { s₁ with heap := h, toks := tk }) ∧
    (∀ D ys made h tk, R vs.length ys made → Fr h₀ L h m → News h₀ L h ((D, lst ys) :: (made ++ news)) → (∀ p ∈ made ++ news, p.1 ≠ D) → Q (.ref D) { s₁ with heap := h, toks := tk })
set_option maxHeartbeats 1000000 in
theorem comp1 {elt iter : Expr} {x1 : Str} {q1 : Pos} {scope : Scope} {cl : List (Str × Addr)} {pos : Pos} {Q : Value → Shared → Prop} (F₀ : Fr h₀ L s.heap m)
    (hclos : closureFor scope env = pure cl) (hcell : ∀ y ∈ scope.names, y.2 ≠ .cell) (hkind : scope.kind = .function)
    (hnames : ∀ y ∈ scope.names, y.2 = .local → scope.names.lookup y.1 = some .local) (hx1 : scope.names.lookup x1 = some .local)
    (h : wpAny (model prog w) A (eval iter env) (Src1 prog w A h₀ L m env elt x1 scope cl Q) E s)
    (hs : ∀ x, foldedSetIterable iter env x = pure x := by intro _; rfl) :
    wpAny (model prog w) A (eval (.ListComp elt [⟨.Name x1 q1, iter, [], 0⟩] scope pos) env) Q E s := by
  rw [eval_ListComp]
  refine wpAny_comprehension_free (use := none) rfl hs hclos hkind hnames (wpAny_mono h (fun xv s₁ h₁ => ?_) fun _ _ e => e)
  obtain ⟨l, vs, nn, news, R, rfl, hh, F, N, hl, hsz, R0, turn, fin⟩ := h₁
  have hls : s₁.heap.IsList l vs.toArray := News.isList N hl
  have hlt : l < s₁.heap.objs.size := Heap.lt_size (N _ hl).1
  refine wpAny_pyIter_list hls ?_
  have W := Walks.list (prog := prog) (w := w) hh s₁.heap.objs.size l (Nat.ne_of_lt hlt) vs.toArray
  rw [show vs.toArray.size = vs.length by simp] at W
  refine wpAny_newObj_type (wpAny_newFunctionEnv hcell (by intro y hy; simp at hy) (fun h₁ hns₁ hsb₁ => ?_) hkind)
  dsimp only at hns₁ hsb₁ ⊢
  generalize hoI : ({ cls := .type "list_iterator", data := .fields #[.ref l, .int 0 0] } : Obj) = oI0 at *
  have hpI : (s₁.heap.push oI0).get? s₁.heap.objs.size = some oI0 := by rw [← hoI]; exact Heap.get?_push_size _ rfl
  generalize hIa : s₁.heap.objs.size = I at *
  generalize hDa : (s₁.heap.push oI0).objs.size = D at *
  have hD1 : D = I + 1 := by rw [← hDa, Heap.size_push, hIa]
  generalize hH2 : (s₁.heap.push oI0).push { cls := .type "list", dict := none, data := .seq ([] : List Value).toArray } = H2 at hns₁ hsb₁ ⊢
  have hC : H2.objs.size = D + 1 := by rw [← hH2, Heap.size_push, hDa]
  generalize hCa : H2.objs.size = C at *
  have hID : I < D := by rw [hD1]; exact Nat.lt_succ_self _
  have hDC : D < C := by rw [hC]; exact Nat.lt_succ_self _
  have old1 : ∀ b o, s₁.heap.get? b = some o → b < I := fun b o e => by rw [← hIa]; exact Heap.lt_size e
  have up2 : ∀ b o, s₁.heap.get? b = some o → H2.get? b = some o := fun b o e => by rw [← hH2]; exact Heap.get?_push_of_some _ (Heap.get?_push_of_some _ e)
  have old : ∀ b o, s₁.heap.get? b = some o → h₁.get? b = some o := fun b o e => hsb₁.extBut b o (Nat.ne_of_lt (Nat.lt_trans (old1 b o e) (Nat.lt_trans hID hDC))) (Heap.get?_push_of_some _ (up2 b o e))
  have hgI : H2.get? I = some oI0 := by rw [← hH2]; exact Heap.get?_push_of_some _ hpI
  have hgD : H2.get? D = some (lst []) := by rw [← hH2, ← hDa]; exact Heap.get?_push_size _ rfl
  have hst₁ : h₁.IsListIter I l 0 ∧ h₁.IsList l vs.toArray := by
    refine ⟨⟨oI0, hsb₁.extBut _ _ (Nat.ne_of_lt (Nat.lt_trans hID hDC)) (Heap.get?_push_of_some _ hgI), ?_⟩, hls.at fun o e => old _ o e⟩
    rw [← hoI]
    exact ⟨rfl, rfl⟩
  have hacc : h₁.get? D = some (lst []) := hsb₁.extBut _ _ (Nat.ne_of_lt hDC) (Heap.get?_push_of_some _ hgD)
  have fresh₀ : ∀ a, I ≤ a → h₀.get? a = none := fun a ha => by
    cases e : h₀.get? a with
    | none => rfl
    | some o' => exact absurd (old1 _ _ (F.keep a o' e)) (Nat.not_lt.mpr ha)
  have hI₀ := fresh₀ I (Nat.le_refl _)
  have hD₀ := fresh₀ D (Nat.le_of_lt hID)
  have hC₀ := fresh₀ C (Nat.le_of_lt (Nat.lt_trans hID hDC))
  have hLI : L < I := by rw [← hIa]; exact F.ns.lt
  have hIL : L ≠ I := Nat.ne_of_lt hLI
  have hDL : D ≠ L := Nat.ne_of_gt (Nat.lt_trans hLI hID)
  have hCL : C ≠ L := Nat.ne_of_gt (Nat.lt_trans hLI (Nat.lt_trans hID hDC))
  have nIC : I ≠ C := Nat.ne_of_lt (Nat.lt_trans hID hDC)
  have nID : I ≠ D := Nat.ne_of_lt hID
  have nDC : D ≠ C := Nat.ne_of_lt hDC
  have hlI : l < I := old1 _ _ (N _ hl).1
  have nlD : l ≠ D := Nat.ne_of_lt (Nat.lt_trans hlI hID)
  have nlC : l ≠ C := Nat.ne_of_lt (Nat.lt_trans hlI (Nat.lt_trans hID hDC))
  have off0 : ∀ p ∈ news, p.1 ≠ I ∧ p.1 ≠ C ∧ p.1 ≠ D := fun p hp => by
    have q := old1 _ _ (N p hp).1
    exact ⟨Nat.ne_of_lt q, Nat.ne_of_lt (Nat.lt_trans q (Nat.lt_trans hID hDC)), Nat.ne_of_lt (Nat.lt_trans q hID)⟩
  have loop : ∀ s₃ : Shared, s₃ = { s₁ with heap := h₁, toks := s₁.toks + ([] : List (Str × Value)).length } →
      codeAny (model prog w) A (.compLoop (.ListComp elt [⟨.Name x1 q1, iter, [], 0⟩] scope pos) 0 (.ref I) (.ref D) (compEnvC scope cl C env))
        (compPost (model prog w) A E none Q (.ref D) C) s₃ := by
    rintro s₃ rfl
    refine codeAny_compLoop_tests
      (fun k s' => ∃ h' tk i ys m' made, s' = { s₁ with heap := h', toks := tk } ∧ i ≤ vs.length ∧ k = vs.length + 1 - i ∧ ys.length = i ∧ (h'.IsListIter I l i ∧ h'.IsList l vs.toArray) ∧ Fr h₀ L h' m ∧ h'.Ns C m' ∧ News h₀ L h' ((D, lst ys) :: (made ++ news)) ∧
        (∀ p ∈ made ++ news, p.1 ≠ I ∧ p.1 ≠ C ∧ p.1 ≠ D) ∧ R i ys made) ?_ (vs.length + 1)
      ⟨h₁, _, 0, [], _, [], rfl, Nat.zero_le _, rfl, rfl, hst₁, F.keeps old, hns₁, fun p hp => ?_, off0, R0⟩
    · rintro k s' ⟨h', tk, i, ys, m', made, rfl, hi, rfl, hyl, hst', F', hn', N', off', hR⟩
      by_cases hlt2 : i < vs.length
      · refine W.item i _ _ _ hlt2 hst' fun v h₂ tk₂ hPv hst₂ hk₂ => ?_
        have hPv' : vs[i]? = some v := by simpa using hPv
        have T := turn i v hPv'
        have N₂ : News h₀ L h₂ ((D, lst ys) :: (made ++ news)) := news_but N' hk₂ fun p hp => by
          rcases List.mem_cons.mp hp with rfl | hp
          · exact Ne.symm nID
          · exact (off' p hp).1
        have hn₂ := hn'.at' fun o e => hk₂ _ o (by simpa using Ne.symm nIC) e
        refine wpAny_assign_Name (wpAny_storeName_local (lookup_relabel_local hx1) hn₂ (fun h₃ hn₃ hs₃ => ?_) (by simp [compEnvC, relabel, hkind]))
        refine wpAny_tests_nil ?_
        simp only [if_true]
        have old3 : ∀ b o, b ≠ C → h₂.get? b = some o → h₃.get? b = some o := fun b o hb e => hs₃.extBut b o hb e
        have hst₃ : h₃.IsListIter I l (i + 1) ∧ h₃.IsList l vs.toArray := ⟨hst₂.1.at fun o e => old3 _ o nIC e, hst₂.2.at fun o e => old3 _ o nlC e⟩
        obtain ⟨oI, heI, _⟩ := id hst₃.1
        obtain ⟨oC, heC, hoC⟩ := ns_obj hn₃
        have F₃ : Fr h₀ L h₃ m := (fr_but F' hk₂ hIL hI₀).change hs₃ hCL hC₀
        have N₃ : News h₀ L h₃ (CompLed I oI C oC D ys made news) := fun p hp => by
          rcases List.mem_cons.mp hp with rfl | hp
          · exact ⟨heI, Ne.symm hIL, hI₀⟩
          · rcases List.mem_cons.mp hp with rfl | hp
            · exact ⟨heC, hCL, hC₀⟩
            · have z := N₂ p hp
              refine ⟨old3 _ _ ?_ z.1, z.2⟩
              rcases List.mem_cons.mp hp with rfl | hp
              · exact nDC
              · exact (off' p hp).2.1
        refine wpAny_mono (T ys made I oI C oC D _ h₃ _ _ hR hoC (by simp) F₃ N₃ off' ⟨nIC, nID, Ne.symm nDC⟩) (fun y s₄ h₄ => ?_) fun _ _ e => e
        obtain ⟨h₄, tk₄, made₄, rfl, F₄, N₄, off₄, R₄⟩ := h₄
        have zI := (N₄ (I, oI) (.head _)).1
        have zC := (N₄ (C, oC) (.tail _ (.head _))).1
        have zD := (N₄ (D, lst ys) (.tail _ (.tail _ (.head _)))).1
        have N₄' : News h₀ L h₄ (made₄ ++ news) := fun p hp => N₄ p (.tail _ (.tail _ (.tail _ hp)))
        have hst₄ : h₄.IsListIter I l (i + 1) ∧ h₄.IsList l vs.toArray := by
          refine ⟨?_, News.isList N₄' (List.mem_append_right _ hl)⟩
          obtain ⟨o', q, r⟩ := hst₃.1
          rw [heI] at q
          cases q
          exact ⟨oI, zI, r⟩
        refine append_at (hsz := by show ys.toArray.size ≤ sizeLine; rw [List.size_toArray, hyl]; exact Nat.le_trans hi hsz) zD fun h₅ hs₅ hD₅ => ?_
        refine ⟨vs.length + 1 - (i + 1), by omega, h₅, tk₄, i + 1, ys ++ [y], _, made₄, rfl, hlt2, rfl, by rw [List.length_append, List.length_singleton, hyl],
          ⟨hst₄.1.at fun o e => hs₅.extBut _ o nID e, hst₄.2.at fun o e => hs₅.extBut _ o nlD e⟩, F₄.change hs₅ hDL hD₀, (hoC.ns zC).sameBut hs₅ (Ne.symm nDC), fun p hp => ?_, off₄, R₄⟩
        rcases List.mem_cons.mp hp with rfl | hp
        · exact ⟨hD₅.trans (congrArg some (lst_snoc ys y)), hDL, hD₀⟩
        · exact ⟨hs₅.extBut _ _ (off₄ p hp).2.2 (N₄' p hp).1, (N₄' p hp).2⟩
      · obtain rfl : i = vs.length := Nat.le_antisymm hi (Nat.not_lt.mp hlt2)
        refine W.done _ _ _ hst' fun h₂ tk₂ hk₂ => ?_
        have N₂ : News h₀ L h₂ ((D, lst ys) :: (made ++ news)) := news_but N' hk₂ fun p hp => by
          rcases List.mem_cons.mp hp with rfl | hp
          · exact Ne.symm nID
          · exact (off' p hp).1
        refine ⟨m', hn'.at' fun o e => hk₂ _ o (by simpa using Ne.symm nIC) e, fun h'' hs'' => ?_⟩
        refine fin D ys made h'' tk₂ hR ((fr_but F' hk₂ hIL hI₀).change hs'' hCL hC₀) (fun p hp => ?_) fun p hp => (off' p hp).2.2
        refine ⟨hs''.extBut _ _ ?_ (N₂ p hp).1, (N₂ p hp).2⟩
        rcases List.mem_cons.mp hp with rfl | hp
        · exact nDC
        · exact (off' p hp).2.1
    · rcases List.mem_cons.mp hp with rfl | hp
      · exact ⟨hacc, hDL, hD₀⟩
      · exact ⟨old _ _ (N p hp).1, (N p hp).2⟩
  exact codeAny_compStart_list (loop _ rfl) (W.self 0 _ _ _ hst₁ (loop _ rfl))
end

theorem join_L {prog : Program} {w : World} {A : Around} {E : Value → Shared → Prop} {s : Shared} {h₀ : Heap} {L l : Addr} {news : List (Addr × Obj)} {vs : List Value} {n : Nat} {ys : List Str} {t : Tok} {Q : Value → Shared → Prop}
    (N : News h₀ L s.heap news) (hm : (l, listOf vs.toArray n) ∈ news) (hS : StrsAre vs ys) (hw : (ys.map (·.length)).sum + ys.length ≤ 1048576) (h : ∀ t' k, Q (.str (Txt.join "\n" ys) t') { s with toks := k }) :
    wpAny (model prog w) A (call (.builtin "str.join") [.str "\n" t, .ref l]) Q E s :=
  join_listW (News.isList N hm) (by simpa using hS) (by decide +kernel) hw h
theorem tripD_inv {news : List (Addr × Obj)} {v : Value} {p : Int × Int × Str} (h : DatIn news v (tripD p)) : ∃ a t u x n, v = .ref a ∧ (a, ({ cls := .type "tuple", data := .seq #[.int p.1 t, .int p.2.1 u, .str p.2.2 x] n } : Obj)) ∈ news := by
  obtain ⟨a, vs, n, rfl, h1, h2⟩ := datTuple_inv h
  obtain ⟨v1, w1, rfl, h3, h4⟩ := datCons_inv h2
  obtain ⟨v2, w2, rfl, h5, h6⟩ := datCons_inv h4
  obtain ⟨v3, w3, rfl, h7, h8⟩ := datCons_inv h6
  obtain rfl := datNil_inv h8
  obtain ⟨t, rfl⟩ := datInt_inv h3
  obtain ⟨u, rfl⟩ := datInt_inv h5
  obtain ⟨x, rfl⟩ := datStr_inv h7
  exact ⟨a, t, u, x, n, rfl, h1⟩
theorem trip_at {news : List (Addr × Obj)} {vs : List Value} {ts : List Trip} {i : Nat} {v : Value} (h : DatAll news vs (ts.map tripD)) (hv : vs[i]? = some v) :
    ∃ q a t u x n, ts[i]? = some q ∧ v = .ref a ∧ (a, ({ cls := .type "tuple", data := .seq #[.int q.1 t, .int q.2.1 u, .str q.2.2 x] n } : Obj)) ∈ news := by
  obtain ⟨d, hd1, hd2⟩ := datGet h hv
  rw [List.getElem?_map] at hd1
  cases hq : ts[i]? with
  | none => rw [hq] at hd1; cases hd1
  | some q =>
    rw [hq] at hd1
    obtain rfl := Option.some.inj hd1
    obtain ⟨a, t, u, x, n, e, hm⟩ := tripD_inv hd2
    exact ⟨q, a, t, u, x, n, rfl, e, hm⟩
def strip3 (q : Trip) : Trip := (q.1, q.2.1, Txt.rstripChars q.2.2 " ")
theorem elt_close {h₀ h' : Heap} {L : Addr} {m : Str → Option Value} {s₁ : Shared} {tk : Nat} {I C D D' : Addr} {oI oC o : Obj} {ys : List Value} {made news : List (Addr × Obj)} {R : List Value → List (Addr × Obj) → Prop}
    (F : Fr h₀ L h' m) (N : News h₀ L h' ((D', o) :: (I, oI) :: (C, oC) :: (D, PyProof.Rows.LCg.lst ys) :: (made ++ news))) (hl : ∀ p ∈ (I, oI) :: (C, oC) :: (D, PyProof.Rows.LCg.lst ys) :: (made ++ news), p.1 < D')
    (off : ∀ p ∈ made ++ news, p.1 ≠ I ∧ p.1 ≠ C ∧ p.1 ≠ D) (hR : R (ys ++ [.ref D']) ((D', o) :: made)) : Elt h₀ L m s₁ I oI C oC D ys news R (.ref D') { s₁ with heap := h', toks := tk } := by
  refine ⟨h', tk, (D', o) :: made, rfl, F, newsSub N fun p hp => ?_, fun p hp => ?_, hR⟩
  · exact (sub_cons (.tail _ (.head _)) (sub_cons (.tail _ (.tail _ (.head _))) (sub_cons (.tail _ (.tail _ (.tail _ (.head _)))) (sub_cons (.head _) fun p hp => .tail _ (.tail _ (.tail _ (.tail _ hp))))))) p hp
  · rcases List.mem_cons.mp hp with rfl | hp
    · exact ⟨Nat.ne_of_gt (hl _ (.head _)), Nat.ne_of_gt (hl _ (.tail _ (.head _))), Nat.ne_of_gt (hl _ (.tail _ (.tail _ (.head _))))⟩
    · exact off p hp
theorem snoc_strip {made : List (Addr × Obj)} {ys : List Value} {ts : List Trip} {i : Nat} {q : Trip} {D' : Addr} {ta tb tc : Tok} (h : DatAll made ys (((ts.take i).map strip3).map tripD)) (hq : ts[i]? = some q) :
    DatAll ((D', { cls := Value.type "tuple", data := Data.seq #[Value.int q.1 ta, Value.int q.2.1 tb, Value.str (Txt.rstripChars q.2.2 " ") tc] }) :: made) (ys ++ [Value.ref D']) (((ts.take (i + 1)).map strip3).map tripD) := by
  rw [List.take_add_one, hq, List.map_append, List.map_append]
  exact (h.mono (sub_skip sub_refl)).append (.one (DatIn.tuple (vs := [_, _, _]) (.head _) (.cons (.int _ _) (.cons (.int _ _) (.cons (.str _ _) .nil)))))
theorem ne_same {prog : Program} {w : World} {A : Around} {E : Value → Shared → Prop} {s : Shared} {h₀ : Heap} {L a b : Addr} {news n₁ n₂ : List (Addr × Obj)} {oa : Obj} {xs ys : List Value} {ka kb : Nat} {ds : List Dat} {Q : Value → Shared → Prop}
    (N : News h₀ L s.heap news) (ma : (a, oa) ∈ news) (ca : oa.cls = .type "list") (da : oa.data = .seq xs.toArray ka) (Da : DatAll n₁ xs ds) (sa : ∀ p ∈ n₁, p ∈ news) (mb : (b, listOf ys.toArray kb) ∈ news) (Db : DatAll n₂ ys ds) (sb : ∀ p ∈ n₂, p ∈ news)
    (ha : ∀ d ∈ ds, kqdOk 8 d = true) (hu : A.units + 64 < cLine) (h : Q (.bool false) s) : wpAny (model prog w) A (compareOp .NotEq (.ref a) (.ref b)) Q E s := by
  refine kqd_ne N ma ca da Da sa mb rfl rfl Db sb ha ha hu ?_
  simp only [decide_true, Bool.not_true]
  exact h
theorem eq_same {prog : Program} {w : World} {A : Around} {E : Value → Shared → Prop} {s : Shared} {h₀ : Heap} {L a b : Addr} {news n₁ n₂ : List (Addr × Obj)} {oa : Obj} {xs ys : List Value} {ka kb : Nat} {ds : List Dat} {Q : Value → Shared → Prop}
    (N : News h₀ L s.heap news) (ma : (a, oa) ∈ news) (ca : oa.cls = .type "list") (da : oa.data = .seq xs.toArray ka) (Da : DatAll n₁ xs ds) (sa : ∀ p ∈ n₁, p ∈ news) (mb : (b, listOf ys.toArray kb) ∈ news) (Db : DatAll n₂ ys ds) (sb : ∀ p ∈ n₂, p ∈ news)
    (ha : ∀ d ∈ ds, kqdOk 8 d = true) (hu : A.units + 64 < cLine) (h : Q (.bool true) s) : wpAny (model prog w) A (compareOp .Eq (.ref a) (.ref b)) Q E s := by
  refine kqd_eq N ma ca da Da sa mb rfl rfl Db sb ha ha hu ?_
  simp only [decide_true]
  exact h
theorem snoc_tail {made : List (Addr × Obj)} {ys : List Value} {ts : List Trip} {i : Nat} {q : Trip} {D' : Addr} {tb tc : Tok} (h : DatAll made ys (((ts.take i).map fun q => q.2).map pairD)) (hq : ts[i]? = some q) :
    DatAll ((D', { cls := Value.type "tuple", data := Data.seq #[Value.int q.2.1 tb, Value.str q.2.2 tc] }) :: made) (ys ++ [Value.ref D']) (((ts.take (i + 1)).map fun q => q.2).map pairD) := by
  rw [List.take_add_one, hq, List.map_append, List.map_append]
  exact (h.mono (sub_skip sub_refl)).append (.one (DatIn.tuple (vs := [_, _]) (.head _) (.cons (.int _ _) (.cons (.str _ _) .nil))))
theorem tail_L {prog : Program} {w : World} {A : Around} {E : Value → Shared → Prop} {s : Shared} {h₀ : Heap} {L : Addr} {m : Str → Option Value} {news : List (Addr × Obj)} {value slice : Expr} {t : Addr} {x y z : Value} {n : Nat} {u : Tok} {Q : Value → Shared → Prop}
    (F : Fr h₀ L s.heap m) (N : News h₀ L s.heap news) (hm : (t, ({ cls := .type "tuple", data := .seq #[x, y, z] n } : Obj)) ∈ news)
    (h : ∀ D' h', (∀ p ∈ news, p.1 < D') → Fr h₀ L h' m → News h₀ L h' ((D', { cls := .type "tuple", data := .seq #[y, z] }) :: news) → Q (.ref D') { s with heap := h' })
    (hs : subscripted slice false (.ref t) (.ref s.heap.objs.size) = operate [.ref s.heap.objs.size, .ref t] (getItem (.ref t) (.ref s.heap.objs.size)) := by with_unfolding_all rfl)
    (hg : ∀ r, letTemporaryGo value (.ref t) r = pure () := by intro _; with_unfolding_all rfl) :
    wpAny (model prog w) A (subscriptTail value slice (.ref t) (.ref s.heap.objs.size)) Q E { s with heap := s.heap.push { cls := .type "slice", data := .fields #[.int 1 u, .none, .none] } } :=
  slice_tuple_from (a := 1) F N ⟨_, (N _ hm).1, rfl, n, rfl⟩ (by decide) (by show 1 ≤ 3; decide) (fun h' F' N' => h _ h' (fun p hp => Nat.lt_succ_of_lt (Heap.lt_size (N p hp).1)) F' N') hs hg (by rw [PySem.sizeLine_eq]; show 3 ≤ 16777216; decide)

theorem reg74 : True := by
  k_with "call builtin:str.join" => (k_here; (with_reducible show wpAny _ _ (call (Value.builtin "str.join") [Value.str _ _, Value.ref _]) _ _ _); k_dflt (refine' Mine.join_L ?N ?m ?hS ?hw ?_; (case N => k_asm); (case m => k_mem); (case hS => assumption); (case hw => omega); k_whole); intro t9Z tk9Z; (try dsimp only); (try k_fold))
  k_with "call ref" => (k_here; (with_reducible show wpAny _ _ (call (Value.ref 187) [Value.str _ _, _]) _ _ _); k_dflt (refine' Mine.rs_r ?B ?F ?X ?T ?hk ?N ?h1 ?h2 ?h3 ?h4 ?h5 ?d ?u ?_; (case B => k_asm); (case F => k_asm); (case X => k_asm); (case T => k_asm); (case hk => first | exact rfl | assumption); (case N => k_asm); (case d => ktr_room); (case u => ktr_units); (case h1 => assumption); (case h2 => (first | exact fun _ h => h | assumption | exact Mine.sub_skip Mine.sub_refl | (intro pZ hpZ; simp [*]))); (case h3 => assumption); (case h4 => assumption); (case h5 => assumption)); intro l9Z vs9Z nn9Z tl9Z h9Z tk9Z l1Z hD9Z F9Z N9Z; (try dsimp only); (try k_fold))
  k_with "call ref" => (k_here; (with_reducible show wpAny _ _ (call (Value.ref 67) [Value.ref _, _]) _ _ _); k_dflt (refine' Mine.list_c ?B ?F ?X ?T ?hk ?N ?h1 ?h2 ?h3 ?h4 ?h5 ?h6 ?h7 ?h8 ?d ?u ?_; (case B => k_asm); (case F => k_asm); (case X => k_asm); (case T => k_asm); (case hk => first | exact rfl | assumption); (case N => k_asm); (case d => ktr_room); (case u => ktr_units); (case h1 => assumption); (case h2 => (first | exact fun _ h => h | assumption | exact Mine.sub_skip Mine.sub_refl | (intro pZ hpZ; simp [*]))); (case h3 => assumption); (case h4 => assumption); (case h5 => assumption); (case h6 => omega); (case h7 => assumption); (case h8 => assumption)); intro l9Z vs9Z nn9Z h9Z tk9Z l1Z hS9Z F9Z N9Z; (try dsimp only); (try k_fold))
  k_with "eval ListComp" => (k_here; (with_reducible show wpAny _ _ (eval (Expr.ListComp _ [⟨Expr.Tuple [_, _, _] _ _, _, _, _⟩] _ _) _) _ _ _); k_dflt (refine Mine.comp3 (F₀ := by k_asm) (by with_unfolding_all rfl) (by decide) (by rfl) (by decide) (by rfl) (by rfl) (by rfl) (by decide) (by decide) (by decide) ?_))
  k_with "newTuple" => (k_here; k_dflt (refine' kup_newTuple ?F ?N ?_ ?z; (case F => k_asm); (case N => k_asm); (case z => kmk_size)); intro DZ hZ FZ NZ l1Z; (have l1aZ := l1Z); (try k_lt l1Z); (try k_sweep))
  k_with "compareOp NotEq ref ref" => (k_here; (with_reducible show wpAny _ _ (compareOp CmpOp.NotEq (Value.ref _) (Value.ref _)) _ _ _); refine Mine.stop_T ?_)
  k_with "compareOp Eq ref ref" => (k_here; (with_reducible show wpAny _ _ (compareOp CmpOp.Eq (Value.ref _) (Value.ref _)) _ _ _); refine Mine.stop_T ?_)
  k_with "eval ListComp" => (k_here; (with_reducible show wpAny _ _ (eval (Expr.ListComp _ [⟨Expr.Name _ _, _, _, _⟩] _ _) _) _ _ _); k_dflt (refine Mine.comp1 (F₀ := by k_asm) (by with_unfolding_all rfl) (by decide) (by rfl) (by decide) (by rfl) ?_))
  trivial
set_option maxHeartbeats 8000000 in
theorem end_T {w : World} {mean : ExcName → Option Value} {mg mb : Str → Option Value} {dp un : Nat} {gd : Option (List Code)} {cn : Str} {cs : Scope} {a : Addr} {ccd : Value} {A₀ : Around} {base h₀ : Heap} {L : Addr} {m : Str → Option Value} {s : Shared} {Q : Flow → Shared → Prop} {E : Value → Shared → Prop} {body : List Stmt} {lc lw lp xl dl : Addr} {vs vw vp : List Value} {nn nw np : Nat} {cols cont : Int} {t1 u1 : T8} {news tl : List (Addr × Obj)} {ks : List Str} {ws : List (Int × Int × Str)}
    (hcs : scopeOf lawDef = some cs) (hbody : endBody = body)
    (B : Below A₀ base [] h₀) (F : Fr h₀ L s.heap m) (X : (K0 w.params).In h₀) (T : Top V0 (looseW V0 []) mean mg mb h₀) (hk : cs.kind = .function) (hmc : m "card" = some (.ref lc)) (hmw : m "wanted" = some (.ref lw)) (hmp : m "pairs" = some (.ref lp)) (hml : m "limits" = some (.ref xl))
    (N : News h₀ L s.heap news) (i1 : (lc, listOf vs.toArray nn) ∈ news) (i2 : (lw, listOf vw.toArray nw) ∈ news) (i3 : (lp, listOf vp.toArray np) ∈ news) (i4 : (xl, instObj 85 dl) ∈ news) (i5 : (dl, limDict w 32 7 15 38 100 cont cols 9 t1 u1) ∈ news) (i6 : ∀ p ∈ tl, p ∈ news)
    (hLaid : Laid cols cont ks ws) (hw0 : ws ≠ []) (hw1 : ws.length ≤ 3) (hS : StrsAre vs ks) (hDw : DatAll tl vw (ws.map tripD)) (hDp : DatAll tl vp (ws.map fun q => pairD q.2)) (hkl : ks.length ≤ 90)
    (hc0 : 8 ≤ cols) (hc1 : cols ≤ 60) (hv0 : 0 ≤ cont) (hv1 : cont < 10) (hd' : dp + 10 < recursionLimit) (hu : un + 100 < cLine)
    (hret : ∀ (m' : Str → Option Value) h' tk' news', Fr h₀ L h' m' → News h₀ L h' news' → Q (.ret (.bool true)) { s with heap := h', toks := tk' }) :
    wpAny (model PySem.Challenge.rw_no0235_01.row.prog w) (ktrTop dp un gd cn cs L a ccd [] []) (execs body (envX cn cs L a ccd [])) Q E s := by
  replace F := (show MapIs m [] [(Str.ofString "card", .ref lc), (Str.ofString "wanted", .ref lw), (Str.ofString "pairs", .ref lp), (Str.ofString "limits", .ref xl)] m from ⟨List.forall_mem_cons.mpr ⟨hmc, List.forall_mem_cons.mpr ⟨hmw, List.forall_mem_cons.mpr ⟨hmp, List.forall_mem_cons.mpr ⟨hml, List.forall_mem_nil _⟩⟩⟩⟩, fun _ _ _ => rfl⟩).fr F
  revert X; k_fill; intro X; w_top off
  have hcs0 := hcs
  conv at hbody => lhs; whnf
  conv at hcs => lhs; whnf
  obtain rfl := Option.some.inj hcs
  subst hbody
  have hcols : 8 ≤ cols ∧ cols ≤ 60 := ⟨hc0, hc1⟩
  have hcont : 0 ≤ cont ∧ cont ≤ 1000 := ⟨hv0, by omega⟩
  have hlim : IsLim w news (.ref xl) cont cols := ⟨xl, dl, _, _, _, _, _, _, _, _, rfl, i4, i5⟩
  obtain ⟨cds, ts, hR, hts, htl, hjw, hjl⟩ := told_ok hcols hLaid hw0 (by omega)
  (try k_fold)
  k_steps
  rename News h₀ L _ _ => N1
  rename Fr h₀ L _ _ => F1
  obtain ⟨l1, vs1, nn1, tl1, rfl, o1, hD1, N2⟩ : ∃ (l1 : Addr) (vs1 : List Value) (nn1 : Nat) (tl1 : List (Addr × Obj)), l1 = _ ∧ (∀ q ∈ (l1, listOf vs1.toArray nn1) :: tl1, ∀ p ∈ news, p.1 < q.1) ∧ DatAll tl1 vs1 (ts.map tripD) ∧ News _ _ _ ((l1, listOf vs1.toArray nn1) :: (tl1 ++ news)) := ⟨_, _, _, _, rfl, by assumption, by assumption, N1⟩
  have hts3 : ts.length ≤ 3 := by rw [← List.length_map (f := fun q : Trip => (q.1, q.2.1, Txt.rstripChars q.2.2 " ")), hts]; exact hw1
  have hv1l := hD1.length
  rw [List.length_map] at hv1l
  unfold Src3
  refine ⟨l1, vs1, nn1, (l1, listOf vs1.toArray nn1) :: (tl1 ++ news), fun i ys made => DatAll made ys (((ts.take i).map strip3).map tripD), rfl, by with_unfolding_all rfl, F1, N2, .head _, by rw [PySem.sizeLine_eq]; omega, .nil, ?turn, ?fin⟩
  case turn =>
    intro i v hv
    obtain ⟨q, a', ta, tb, tc, n', hq, rfl, hm⟩ := trip_at hD1 hv
    refine ⟨a', _, _, _, n', rfl, .tail _ (List.mem_append_left _ hm), ?_⟩
    intro ys made I oI C oC D m₂ h tk E' hR1 hC hx1 hx2 hx3 F3 N3 off ne
    dsimp only [CompLed] at N3
    have hql := htl q (List.mem_of_getElem? hq)
    k_steps
    rename Fr h₀ L _ _ => F4
    rename News h₀ L _ _ => N4
    exact elt_close F4 N4 (by assumption) off (snoc_strip hR1 hq)
  case fin =>
    intro D2 ys2 made2 h2 tk2 hD2 F5 N5 off2
    dsimp only at hD2 F5 N5 ⊢
    rw [hv1l, List.take_length, show ts.map strip3 = ws from hts] at hD2
    k_steps
    unfold Stop
    k_dflt (refine ne_same (news := (D2, PyProof.Rows.LCg.lst ys2) :: (made2 ++ (l1, listOf vs1.toArray nn1) :: (tl1 ++ news))) (by k_asm) (.head _) rfl rfl hD2 (fun p hp => .tail _ (List.mem_append_left _ hp)) (.tail _ (List.mem_append_right _ (.tail _ (List.mem_append_right _ i2)))) hDw (fun p hp => .tail _ (List.mem_append_right _ (.tail _ (List.mem_append_right _ (i6 p hp))))) (laid_kqd hLaid) ?hu ?_)
    case hu => ktr_units
    have N6 : News h₀ L h2 news := newsSub N5 fun p hp => .tail _ (List.mem_append_right _ (.tail _ (List.mem_append_right _ hp)))
    clear N5 off2 N1 N2 F1 hD2 hD1 o1 hR
    have hps : ∀ p ∈ ws.map (fun q => q.2), okP cols cont p := by
      intro p hp
      obtain ⟨q, hq, rfl⟩ := List.mem_map.mp hp
      exact laid_ok hLaid q hq
    have hDp2 : DatAll news vp ((ws.map fun q => q.2).map pairD) := by
      rw [List.map_map]; exact hDp.mono i6
    have hp0 : ws.map (fun q => q.2) ≠ [] := by
      intro e; exact hw0 (List.map_eq_nil_iff.mp e)
    have hp1 : (ws.map fun q => q.2).length ≤ 3 := by rw [List.length_map]; exact hw1
    have hp2 : (ws.map fun q => q.2).length ≤ 10 := by omega
    obtain ⟨rs, z, cds2, ts2, hR2, hts2, hjw2⟩ := plain_ok hcols hps hp0 hp1
    generalize ws.map (fun q => q.2) = ps at *
    have hps2 : ∀ p ∈ ps, 0 ≤ p.1 ∧ p.1 < 100000 ∧ p.2.length ≤ 1000 ∧ (nCont p.2 (cols - 5 - 1) : Int) ≤ cont := by
      intro p hp
      obtain ⟨q1, q2, q3, q4⟩ := hps p hp
      have := okText.length q3
      exact ⟨q1, q2, by omega, q4⟩
    k_steps
    rename Fr h₀ L _ _ => F7
    obtain ⟨l2, vs2, nn2, tl2, e2, rfl, hD2, N7⟩ : ∃ (l2 : Addr) (vs2 : List Value) (nn2 : Nat) (tl2 : List (Addr × Obj)) (e2 : Addr × Obj), l2 = _ ∧ DatAll tl2 vs2 (ts2.map tripD) ∧ News _ _ _ ((l2, listOf vs2.toArray nn2) :: (tl2 ++ e2 :: news)) := ⟨_, _, _, _, _, rfl, by assumption, by assumption⟩
    have hts4 : ts2.length ≤ 3 := by rw [← List.length_map (f := fun q : Trip => q.2), hts2]; exact hp1
    have hv2l := hD2.length
    rw [List.length_map] at hv2l
    unfold Src1
    refine ⟨l2, vs2, nn2, (l2, listOf vs2.toArray nn2) :: (tl2 ++ e2 :: news), fun i ys made => DatAll made ys (((ts2.take i).map fun q => q.2).map pairD), rfl, by with_unfolding_all rfl, F7, N7, .head _, by rw [PySem.sizeLine_eq]; omega, .nil, ?turn2, ?fin2⟩
    case turn2 =>
      intro i v hv ys made I oI C oC D m₂ h tk E' hR1 hC hx1 F3 N3 off ne
      obtain ⟨q, a', ta, tb, tc, n', hq, rfl, hm⟩ := trip_at hD2 hv
      dsimp only [CompLed] at N3
      have hm2 : (a', ({ cls := .type "tuple", data := .seq #[.int q.1 ta, .int q.2.1 tb, .str q.2.2 tc] n' } : Obj)) ∈ (I, oI) :: (C, oC) :: (D, PyProof.Rows.LCg.lst ys) :: (made ++ (l2, listOf vs2.toArray nn2) :: (tl2 ++ e2 :: news)) := .tail _ (.tail _ (.tail _ (List.mem_append_right _ (.tail _ (List.mem_append_left _ hm)))))
      k_steps
      k_dflt (refine tail_L (s := { s with heap := h, toks := _ }) F3 N3 hm2 ?_)
      intro D3 h3 l3 F4 N4
      (try dsimp only)
      k_steps
      exact elt_close F4 N4 l3 off (snoc_tail hR1 hq)
    case fin2 =>
      intro D3 ys3 made3 h3 tk3 hD3 F5 N5 off3
      dsimp only at hD3 F5 N5 ⊢
      rw [hv2l, List.take_length, hts2] at hD3
      k_steps
      unfold Stop
      k_dflt (refine eq_same (news := (D3, PyProof.Rows.LCg.lst ys3) :: (made3 ++ (l2, listOf vs2.toArray nn2) :: (tl2 ++ e2 :: news))) (by k_asm) (.head _) rfl rfl hD3 (fun p hp => .tail _ (List.mem_append_left _ hp)) (.tail _ (List.mem_append_right _ (.tail _ (List.mem_append_right _ (.tail _ i3))))) hDp2 (fun p hp => .tail _ (List.mem_append_right _ (.tail _ (List.mem_append_right _ (.tail _ hp))))) (pairs_kqd hps) ?hu2 ?_)
      case hu2 => ktr_units
      k_steps
      exact hret _ h3 _ _ F5 N5

noncomputable abbrev hook0 : Hook := kHook K0 keys0 (fun _ => by kernel_rfl)
set_option maxHeartbeats 4000000 in
/-- the top, run once: it leaves what K0 and V0 say -/
theorem top_left : LeftO PySem.Challenge.rw_no0235_01.row.prog V0 [] (fun s => xlAt V0 [] s && recOk (RowW.records (OpenRow.toRowW PySem.Challenge.rw_no0235_01.row)) s) (Hook.obs hook0) (Hook.val hook0) 3414 := fun w => by kernel_rfl

set_option maxHeartbeats 8000000 in
theorem law_holds : PySem.Challenge.rw_no0235_01.Holds := by
  w_on
  o_law
  refine holds_open (q := V0) (loose := []) (Xt := fun s => xlAt V0 [] s && recOk (RowW.records (OpenRow.toRowW PySem.Challenge.rw_no0235_01.row)) s) (XP := XL V0 []) (Yf := Hook.obs hook0) (Ya := Hook.val hook0) (YP := Hook.says hook0) (N := 3414) top_left (Hook.of _) (Hook.keeps _) (fun s e => xl_of s (Bool.and_eq_true_iff.mp e).1) XL.keeps (by rfl) (by rfl) (by rfl) (fun s e => recFacts_of (Bool.and_eq_true_iff.mp e).2) (by rfl) (by first | assumption | decide +kernel) (by decide +kernel) ⟨rfl, rfl, rfl, rfl, rfl, by decide +kernel⟩ ?hw ?hc
  case hw => w_witness2
  w_strict (
    k_go0
    all_goals try k_fold
    w_top off
    k_steps
    rename News _ _ _ [(_, listOf #[] 0), _, _, _, _, _, _] => N1
    rename Fr _ _ _ _ => F1
    rename IsRange _ _ _ _ _ _ _ _ => hR
    rename IntsAre _ (List.take 24 _) => hI
    refine turns_T (by with_unfolding_all rfl) (by with_unfolding_all rfl) (by assumption) F1 (by assumption) (by assumption) (by with_unfolding_all rfl) (by assumption) (by assumption) rfl rfl rfl rfl rfl rfl N1 ?q1 ?q2 ?q3 ?q4 ?q5 ?q6 hR (by omega) (by omega) hI (Nat.le_trans (List.length_take_le _ _) (by decide)) (by omega) (by omega) (by omega) (by omega) ?hE ?d ?u ?hret
    case hE => passes_own
    case q1 => (refine (?_ : nlt _ _); unfold nlt; omega)
    case q2 => (refine (?_ : nlt _ _); unfold nlt; omega)
    case q3 => (refine (?_ : nlt _ _); unfold nlt; omega)
    case q4 => (refine (?_ : nlt _ _); unfold nlt; omega)
    case q5 => (refine (?_ : nlt _ _); unfold nlt; omega)
    case q6 => (refine (?_ : nlt _ _); unfold nlt; omega)
    case d => ktr_room
    case u => ktr_units
    case hret =>
      intro u c h' tk' htk hLaid hwl hS hDw hDp hcl F5 N5
      dsimp only
      have hw1 : c.ws.length ≤ 3 := by omega
      have hw0 : c.ws ≠ [] := by
        intro e
        rw [e, List.length_nil] at hwl
        omega
      refine end_T (by with_unfolding_all rfl) (by with_unfolding_all rfl) (by assumption) F5 (by assumption) (by assumption) (by with_unfolding_all rfl) rfl rfl rfl rfl N5 (.head _) (.tail _ (.head _)) (.tail _ (.tail _ (.head _))) (.tail _ (.tail _ (.tail _ (.tail _ (.head _))))) (.tail _ (.tail _ (.tail _ (.tail _ (.tail _ (.head _)))))) (fun p hp => .tail _ (.tail _ (.tail _ (.tail _ (.tail _ (.tail _ (.tail _ hp)))))))
        hLaid hw0 hw1 hS hDw hDp hcl (by omega) (by omega) (by omega) (by omega) ?d ?u ?hret2
      case d => ktr_room
      case u => ktr_units
      case hret2 =>
        intro m' h2 tk2 news' F6 N6
        dsimp only
        k_steps)

end Mine
theorem PySem.Challenge.cw_no0235_01_holds : PySem.Challenge.rw_no0235_01.Holds :=
  Mine.law_holds
