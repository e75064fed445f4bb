import PyProof.Rows.All
import Wide.All
import OpenK.KSplit
import OpenK.KNot
import OpenK.KApp
import KE.KEqSeq
import KE.KSlice
import KE.RegLcTurns
import KE.KCat
import KE.KTup
import KE.KxSplit
import KE.KxBytes
import KE.KTree
import KE.KRevSl
import KE.KLcTest
import KE.KItemAt
import KE.KCompFold
import KE.KCallJoin
import KE.KStateW
import KE.KSetAt
import KE.KAssignIn
import KE.KCallBy
import KE.KBytesUnr
import KE.RegFinNonlin
import KE.KPairComp
import KE.BytesK
import KE.KIntText
import KE.IntText
import KE.KPairTest
import KE.KTreeO
import KE.KDeep
import KE.KEndW
import KE.RegKNeg
import KE.KPassesOwn
import Wide.FinOn
import Lean
import PySem.Challenge.RW_pb0273_01
open PySem PySem.W PyProof.Rows
set_option Elab.async false
set_option maxRecDepth 100000
set_option maxHeartbeats 0
set_option linter.all false
set_option genInjectivity false
set_option genSizeOf false
namespace Mine
abbrev PB : List Stmt := PySem.Challenge.pw_pb0273_01.main.body
def stAt (l : List Stmt) (i : Nat) : Stmt := match l.drop i with | s :: _ => s | [] => .Pass default
def clBody : Stmt → List Stmt | .ClassDef _ _ _ b _ _ _ _ _ _ _ => b | _ => []
def fnParams : Stmt → Arguments | .FunctionDef _ a _ _ _ _ _ _ _ _ => a | _ => default
def fnBody : Stmt → List Stmt | .FunctionDef _ _ b _ _ _ _ _ _ _ => b | _ => []
def fnScope : Stmt → Scope | .FunctionDef _ _ _ _ _ _ s _ _ _ => s | _ => default
def fnPos : Stmt → Pos | .FunctionDef _ _ _ _ _ _ _ _ _ p => p | _ => default
local macro_rules | `(tactic| walk_at "MyLit") => `(tactic| (conv => lhs; whnf))
noncomputable def aP21 : Arguments := by
  refine (?f : (y : Arguments) → fnParams (stAt PB 1) = y → Arguments) ?y ?h
  case f => exact fun y _ => y
  case h => walk_at "MyLit"
noncomputable def aB21 : List Stmt := by
  refine (?f : (y : List Stmt) → fnBody (stAt PB 1) = y → List Stmt) ?y ?h
  case f => exact fun y _ => y
  case h => walk_at "MyLit"
noncomputable def aS21 : Scope := by
  refine (?f : (y : Scope) → fnScope (stAt PB 1) = y → Scope) ?y ?h
  case f => exact fun y _ => y
  case h => walk_at "MyLit"
noncomputable def aP29 : Arguments := by
  refine (?f : (y : Arguments) → fnParams (stAt PB 2) = y → Arguments) ?y ?h
  case f => exact fun y _ => y
  case h => walk_at "MyLit"
noncomputable def aB29 : List Stmt := by
  refine (?f : (y : List Stmt) → fnBody (stAt PB 2) = y → List Stmt) ?y ?h
  case f => exact fun y _ => y
  case h => walk_at "MyLit"
noncomputable def aS29 : Scope := by
  refine (?f : (y : Scope) → fnScope (stAt PB 2) = y → Scope) ?y ?h
  case f => exact fun y _ => y
  case h => walk_at "MyLit"
noncomputable def aP36 : Arguments := by
  refine (?f : (y : Arguments) → fnParams (stAt PB 3) = y → Arguments) ?y ?h
  case f => exact fun y _ => y
  case h => walk_at "MyLit"
noncomputable def aB36 : List Stmt := by
  refine (?f : (y : List Stmt) → fnBody (stAt PB 3) = y → List Stmt) ?y ?h
  case f => exact fun y _ => y
  case h => walk_at "MyLit"
noncomputable def aS36 : Scope := by
  refine (?f : (y : Scope) → fnScope (stAt PB 3) = y → Scope) ?y ?h
  case f => exact fun y _ => y
  case h => walk_at "MyLit"
noncomputable def aP52 : Arguments := by
  refine (?f : (y : Arguments) → fnParams (stAt (clBody (stAt PB 5)) 0) = y → Arguments) ?y ?h
  case f => exact fun y _ => y
  case h => walk_at "MyLit"
noncomputable def aB52 : List Stmt := by
  refine (?f : (y : List Stmt) → fnBody (stAt (clBody (stAt PB 5)) 0) = y → List Stmt) ?y ?h
  case f => exact fun y _ => y
  case h => walk_at "MyLit"
noncomputable def aS52 : Scope := by
  refine (?f : (y : Scope) → fnScope (stAt (clBody (stAt PB 5)) 0) = y → Scope) ?y ?h
  case f => exact fun y _ => y
  case h => walk_at "MyLit"
noncomputable def aP59 : Arguments := by
  refine (?f : (y : Arguments) → fnParams (stAt (clBody (stAt PB 5)) 1) = y → Arguments) ?y ?h
  case f => exact fun y _ => y
  case h => walk_at "MyLit"
noncomputable def aB59 : List Stmt := by
  refine (?f : (y : List Stmt) → fnBody (stAt (clBody (stAt PB 5)) 1) = y → List Stmt) ?y ?h
  case f => exact fun y _ => y
  case h => walk_at "MyLit"
noncomputable def aS59 : Scope := by
  refine (?f : (y : Scope) → fnScope (stAt (clBody (stAt PB 5)) 1) = y → Scope) ?y ?h
  case f => exact fun y _ => y
  case h => walk_at "MyLit"
noncomputable def aP116 : Arguments := by
  refine (?f : (y : Arguments) → fnParams (stAt (clBody (stAt PB 12)) 0) = y → Arguments) ?y ?h
  case f => exact fun y _ => y
  case h => walk_at "MyLit"
noncomputable def aB116 : List Stmt := by
  refine (?f : (y : List Stmt) → fnBody (stAt (clBody (stAt PB 12)) 0) = y → List Stmt) ?y ?h
  case f => exact fun y _ => y
  case h => walk_at "MyLit"
noncomputable def aS116 : Scope := by
  refine (?f : (y : Scope) → fnScope (stAt (clBody (stAt PB 12)) 0) = y → Scope) ?y ?h
  case f => exact fun y _ => y
  case h => walk_at "MyLit"
noncomputable def aP123 : Arguments := by
  refine (?f : (y : Arguments) → fnParams (stAt (clBody (stAt PB 12)) 1) = y → Arguments) ?y ?h
  case f => exact fun y _ => y
  case h => walk_at "MyLit"
noncomputable def aB123 : List Stmt := by
  refine (?f : (y : List Stmt) → fnBody (stAt (clBody (stAt PB 12)) 1) = y → List Stmt) ?y ?h
  case f => exact fun y _ => y
  case h => walk_at "MyLit"
noncomputable def aS123 : Scope := by
  refine (?f : (y : Scope) → fnScope (stAt (clBody (stAt PB 12)) 1) = y → Scope) ?y ?h
  case f => exact fun y _ => y
  case h => walk_at "MyLit"
noncomputable def aP130 : Arguments := by
  refine (?f : (y : Arguments) → fnParams (stAt (clBody (stAt PB 12)) 2) = y → Arguments) ?y ?h
  case f => exact fun y _ => y
  case h => walk_at "MyLit"
noncomputable def aB130 : List Stmt := by
  refine (?f : (y : List Stmt) → fnBody (stAt (clBody (stAt PB 12)) 2) = y → List Stmt) ?y ?h
  case f => exact fun y _ => y
  case h => walk_at "MyLit"
noncomputable def aS130 : Scope := by
  refine (?f : (y : Scope) → fnScope (stAt (clBody (stAt PB 12)) 2) = y → Scope) ?y ?h
  case f => exact fun y _ => y
  case h => walk_at "MyLit"
noncomputable def aP144 : Arguments := by
  refine (?f : (y : Arguments) → fnParams (stAt PB 13) = y → Arguments) ?y ?h
  case f => exact fun y _ => y
  case h => walk_at "MyLit"
noncomputable def aB144 : List Stmt := by
  refine (?f : (y : List Stmt) → fnBody (stAt PB 13) = y → List Stmt) ?y ?h
  case f => exact fun y _ => y
  case h => walk_at "MyLit"
noncomputable def aS144 : Scope := by
  refine (?f : (y : Scope) → fnScope (stAt PB 13) = y → Scope) ?y ?h
  case f => exact fun y _ => y
  case h => walk_at "MyLit"
noncomputable def aP151 : Arguments := by
  refine (?f : (y : Arguments) → fnParams (stAt PB 14) = y → Arguments) ?y ?h
  case f => exact fun y _ => y
  case h => walk_at "MyLit"
noncomputable def aB151 : List Stmt := by
  refine (?f : (y : List Stmt) → fnBody (stAt PB 14) = y → List Stmt) ?y ?h
  case f => exact fun y _ => y
  case h => walk_at "MyLit"
noncomputable def aS151 : Scope := by
  refine (?f : (y : Scope) → fnScope (stAt PB 14) = y → Scope) ?y ?h
  case f => exact fun y _ => y
  case h => walk_at "MyLit"
noncomputable def aP158 : Arguments := by
  refine (?f : (y : Arguments) → fnParams (stAt PB 15) = y → Arguments) ?y ?h
  case f => exact fun y _ => y
  case h => walk_at "MyLit"
noncomputable def aB158 : List Stmt := by
  refine (?f : (y : List Stmt) → fnBody (stAt PB 15) = y → List Stmt) ?y ?h
  case f => exact fun y _ => y
  case h => walk_at "MyLit"
noncomputable def aS158 : Scope := by
  refine (?f : (y : Scope) → fnScope (stAt PB 15) = y → Scope) ?y ?h
  case f => exact fun y _ => y
  case h => walk_at "MyLit"
noncomputable def aP165 : Arguments := by
  refine (?f : (y : Arguments) → fnParams (stAt PB 16) = y → Arguments) ?y ?h
  case f => exact fun y _ => y
  case h => walk_at "MyLit"
noncomputable def aB165 : List Stmt := by
  refine (?f : (y : List Stmt) → fnBody (stAt PB 16) = y → List Stmt) ?y ?h
  case f => exact fun y _ => y
  case h => walk_at "MyLit"
noncomputable def aS165 : Scope := by
  refine (?f : (y : Scope) → fnScope (stAt PB 16) = y → Scope) ?y ?h
  case f => exact fun y _ => y
  case h => walk_at "MyLit"
noncomputable def aP172 : Arguments := by
  refine (?f : (y : Arguments) → fnParams (stAt PB 17) = y → Arguments) ?y ?h
  case f => exact fun y _ => y
  case h => walk_at "MyLit"
noncomputable def aB172 : List Stmt := by
  refine (?f : (y : List Stmt) → fnBody (stAt PB 17) = y → List Stmt) ?y ?h
  case f => exact fun y _ => y
  case h => walk_at "MyLit"
noncomputable def aS172 : Scope := by
  refine (?f : (y : Scope) → fnScope (stAt PB 17) = y → Scope) ?y ?h
  case f => exact fun y _ => y
  case h => walk_at "MyLit"
noncomputable def aP179 : Arguments := by
  refine (?f : (y : Arguments) → fnParams (stAt PB 18) = y → Arguments) ?y ?h
  case f => exact fun y _ => y
  case h => walk_at "MyLit"
noncomputable def aB179 : List Stmt := by
  refine (?f : (y : List Stmt) → fnBody (stAt PB 18) = y → List Stmt) ?y ?h
  case f => exact fun y _ => y
  case h => walk_at "MyLit"
noncomputable def aS179 : Scope := by
  refine (?f : (y : Scope) → fnScope (stAt PB 18) = y → Scope) ?y ?h
  case f => exact fun y _ => y
  case h => walk_at "MyLit"
noncomputable def aP184 : Arguments := by
  refine (?f : (y : Arguments) → fnParams (stAt PB 19) = y → Arguments) ?y ?h
  case f => exact fun y _ => y
  case h => walk_at "MyLit"
noncomputable def aB184 : List Stmt := by
  refine (?f : (y : List Stmt) → fnBody (stAt PB 19) = y → List Stmt) ?y ?h
  case f => exact fun y _ => y
  case h => walk_at "MyLit"
noncomputable def aS184 : Scope := by
  refine (?f : (y : Scope) → fnScope (stAt PB 19) = y → Scope) ?y ?h
  case f => exact fun y _ => y
  case h => walk_at "MyLit"
noncomputable def aP192 : Arguments := by
  refine (?f : (y : Arguments) → fnParams (stAt PB 20) = y → Arguments) ?y ?h
  case f => exact fun y _ => y
  case h => walk_at "MyLit"
noncomputable def aB192 : List Stmt := by
  refine (?f : (y : List Stmt) → fnBody (stAt PB 20) = y → List Stmt) ?y ?h
  case f => exact fun y _ => y
  case h => walk_at "MyLit"
noncomputable def aS192 : Scope := by
  refine (?f : (y : Scope) → fnScope (stAt PB 20) = y → Scope) ?y ?h
  case f => exact fun y _ => y
  case h => walk_at "MyLit"
noncomputable def aP199 : Arguments := by
  refine (?f : (y : Arguments) → fnParams (stAt PB 30) = y → Arguments) ?y ?h
  case f => exact fun y _ => y
  case h => walk_at "MyLit"
noncomputable def aB199 : List Stmt := by
  refine (?f : (y : List Stmt) → fnBody (stAt PB 30) = y → List Stmt) ?y ?h
  case f => exact fun y _ => y
  case h => walk_at "MyLit"
noncomputable def aS199 : Scope := by
  refine (?f : (y : Scope) → fnScope (stAt PB 30) = y → Scope) ?y ?h
  case f => exact fun y _ => y
  case h => walk_at "MyLit"
noncomputable def aP206 : Arguments := by
  refine (?f : (y : Arguments) → fnParams (stAt PB 31) = y → Arguments) ?y ?h
  case f => exact fun y _ => y
  case h => walk_at "MyLit"
noncomputable def aB206 : List Stmt := by
  refine (?f : (y : List Stmt) → fnBody (stAt PB 31) = y → List Stmt) ?y ?h
  case f => exact fun y _ => y
  case h => walk_at "MyLit"
noncomputable def aS206 : Scope := by
  refine (?f : (y : Scope) → fnScope (stAt PB 31) = y → Scope) ?y ?h
  case f => exact fun y _ => y
  case h => walk_at "MyLit"
noncomputable def aP211 : Arguments := by
  refine (?f : (y : Arguments) → fnParams (stAt PB 32) = y → Arguments) ?y ?h
  case f => exact fun y _ => y
  case h => walk_at "MyLit"
noncomputable def aB211 : List Stmt := by
  refine (?f : (y : List Stmt) → fnBody (stAt PB 32) = y → List Stmt) ?y ?h
  case f => exact fun y _ => y
  case h => walk_at "MyLit"
noncomputable def aS211 : Scope := by
  refine (?f : (y : Scope) → fnScope (stAt PB 32) = y → Scope) ?y ?h
  case f => exact fun y _ => y
  case h => walk_at "MyLit"
noncomputable def aP216 : Arguments := by
  refine (?f : (y : Arguments) → fnParams (stAt PB 33) = y → Arguments) ?y ?h
  case f => exact fun y _ => y
  case h => walk_at "MyLit"
noncomputable def aB216 : List Stmt := by
  refine (?f : (y : List Stmt) → fnBody (stAt PB 33) = y → List Stmt) ?y ?h
  case f => exact fun y _ => y
  case h => walk_at "MyLit"
noncomputable def aS216 : Scope := by
  refine (?f : (y : Scope) → fnScope (stAt PB 33) = y → Scope) ?y ?h
  case f => exact fun y _ => y
  case h => walk_at "MyLit"
noncomputable def aP223 : Arguments := by
  refine (?f : (y : Arguments) → fnParams (stAt PB 34) = y → Arguments) ?y ?h
  case f => exact fun y _ => y
  case h => walk_at "MyLit"
noncomputable def aB223 : List Stmt := by
  refine (?f : (y : List Stmt) → fnBody (stAt PB 34) = y → List Stmt) ?y ?h
  case f => exact fun y _ => y
  case h => walk_at "MyLit"
noncomputable def aS223 : Scope := by
  refine (?f : (y : Scope) → fnScope (stAt PB 34) = y → Scope) ?y ?h
  case f => exact fun y _ => y
  case h => walk_at "MyLit"
noncomputable def aP230 : Arguments := by
  refine (?f : (y : Arguments) → fnParams (stAt PB 35) = y → Arguments) ?y ?h
  case f => exact fun y _ => y
  case h => walk_at "MyLit"
noncomputable def aB230 : List Stmt := by
  refine (?f : (y : List Stmt) → fnBody (stAt PB 35) = y → List Stmt) ?y ?h
  case f => exact fun y _ => y
  case h => walk_at "MyLit"
noncomputable def aS230 : Scope := by
  refine (?f : (y : Scope) → fnScope (stAt PB 35) = y → Scope) ?y ?h
  case f => exact fun y _ => y
  case h => walk_at "MyLit"
noncomputable def aP237 : Arguments := by
  refine (?f : (y : Arguments) → fnParams (stAt PB 36) = y → Arguments) ?y ?h
  case f => exact fun y _ => y
  case h => walk_at "MyLit"
noncomputable def aB237 : List Stmt := by
  refine (?f : (y : List Stmt) → fnBody (stAt PB 36) = y → List Stmt) ?y ?h
  case f => exact fun y _ => y
  case h => walk_at "MyLit"
noncomputable def aS237 : Scope := by
  refine (?f : (y : Scope) → fnScope (stAt PB 36) = y → Scope) ?y ?h
  case f => exact fun y _ => y
  case h => walk_at "MyLit"
noncomputable def aP244 : Arguments := by
  refine (?f : (y : Arguments) → fnParams (stAt PB 37) = y → Arguments) ?y ?h
  case f => exact fun y _ => y
  case h => walk_at "MyLit"
noncomputable def aB244 : List Stmt := by
  refine (?f : (y : List Stmt) → fnBody (stAt PB 37) = y → List Stmt) ?y ?h
  case f => exact fun y _ => y
  case h => walk_at "MyLit"
noncomputable def aS244 : Scope := by
  refine (?f : (y : Scope) → fnScope (stAt PB 37) = y → Scope) ?y ?h
  case f => exact fun y _ => y
  case h => walk_at "MyLit"
noncomputable def aP249 : Arguments := by
  refine (?f : (y : Arguments) → fnParams (stAt PB 38) = y → Arguments) ?y ?h
  case f => exact fun y _ => y
  case h => walk_at "MyLit"
noncomputable def aB249 : List Stmt := by
  refine (?f : (y : List Stmt) → fnBody (stAt PB 38) = y → List Stmt) ?y ?h
  case f => exact fun y _ => y
  case h => walk_at "MyLit"
noncomputable def aS249 : Scope := by
  refine (?f : (y : Scope) → fnScope (stAt PB 38) = y → Scope) ?y ?h
  case f => exact fun y _ => y
  case h => walk_at "MyLit"
noncomputable def aP256 : Arguments := by
  refine (?f : (y : Arguments) → fnParams (stAt PB 39) = y → Arguments) ?y ?h
  case f => exact fun y _ => y
  case h => walk_at "MyLit"
noncomputable def aB256 : List Stmt := by
  refine (?f : (y : List Stmt) → fnBody (stAt PB 39) = y → List Stmt) ?y ?h
  case f => exact fun y _ => y
  case h => walk_at "MyLit"
noncomputable def aS256 : Scope := by
  refine (?f : (y : Scope) → fnScope (stAt PB 39) = y → Scope) ?y ?h
  case f => exact fun y _ => y
  case h => walk_at "MyLit"
noncomputable def aP263 : Arguments := by
  refine (?f : (y : Arguments) → fnParams (stAt PB 40) = y → Arguments) ?y ?h
  case f => exact fun y _ => y
  case h => walk_at "MyLit"
noncomputable def aB263 : List Stmt := by
  refine (?f : (y : List Stmt) → fnBody (stAt PB 40) = y → List Stmt) ?y ?h
  case f => exact fun y _ => y
  case h => walk_at "MyLit"
noncomputable def aS263 : Scope := by
  refine (?f : (y : Scope) → fnScope (stAt PB 40) = y → Scope) ?y ?h
  case f => exact fun y _ => y
  case h => walk_at "MyLit"
noncomputable def aP270 : Arguments := by
  refine (?f : (y : Arguments) → fnParams (stAt PB 41) = y → Arguments) ?y ?h
  case f => exact fun y _ => y
  case h => walk_at "MyLit"
noncomputable def aB270 : List Stmt := by
  refine (?f : (y : List Stmt) → fnBody (stAt PB 41) = y → List Stmt) ?y ?h
  case f => exact fun y _ => y
  case h => walk_at "MyLit"
noncomputable def aS270 : Scope := by
  refine (?f : (y : Scope) → fnScope (stAt PB 41) = y → Scope) ?y ?h
  case f => exact fun y _ => y
  case h => walk_at "MyLit"
noncomputable def aP277 : Arguments := by
  refine (?f : (y : Arguments) → fnParams (stAt PB 42) = y → Arguments) ?y ?h
  case f => exact fun y _ => y
  case h => walk_at "MyLit"
noncomputable def aB277 : List Stmt := by
  refine (?f : (y : List Stmt) → fnBody (stAt PB 42) = y → List Stmt) ?y ?h
  case f => exact fun y _ => y
  case h => walk_at "MyLit"
noncomputable def aS277 : Scope := by
  refine (?f : (y : Scope) → fnScope (stAt PB 42) = y → Scope) ?y ?h
  case f => exact fun y _ => y
  case h => walk_at "MyLit"
noncomputable def aP284 : Arguments := by
  refine (?f : (y : Arguments) → fnParams (stAt PB 43) = y → Arguments) ?y ?h
  case f => exact fun y _ => y
  case h => walk_at "MyLit"
noncomputable def aB284 : List Stmt := by
  refine (?f : (y : List Stmt) → fnBody (stAt PB 43) = y → List Stmt) ?y ?h
  case f => exact fun y _ => y
  case h => walk_at "MyLit"
noncomputable def aS284 : Scope := by
  refine (?f : (y : Scope) → fnScope (stAt PB 43) = y → Scope) ?y ?h
  case f => exact fun y _ => y
  case h => walk_at "MyLit"
noncomputable def aP291 : Arguments := by
  refine (?f : (y : Arguments) → fnParams (stAt PB 44) = y → Arguments) ?y ?h
  case f => exact fun y _ => y
  case h => walk_at "MyLit"
noncomputable def aB291 : List Stmt := by
  refine (?f : (y : List Stmt) → fnBody (stAt PB 44) = y → List Stmt) ?y ?h
  case f => exact fun y _ => y
  case h => walk_at "MyLit"
noncomputable def aS291 : Scope := by
  refine (?f : (y : Scope) → fnScope (stAt PB 44) = y → Scope) ?y ?h
  case f => exact fun y _ => y
  case h => walk_at "MyLit"
noncomputable def aP305 : Arguments := by
  refine (?f : (y : Arguments) → fnParams (stAt (clBody (stAt PB 55)) 0) = y → Arguments) ?y ?h
  case f => exact fun y _ => y
  case h => walk_at "MyLit"
noncomputable def aB305 : List Stmt := by
  refine (?f : (y : List Stmt) → fnBody (stAt (clBody (stAt PB 55)) 0) = y → List Stmt) ?y ?h
  case f => exact fun y _ => y
  case h => walk_at "MyLit"
noncomputable def aS305 : Scope := by
  refine (?f : (y : Scope) → fnScope (stAt (clBody (stAt PB 55)) 0) = y → Scope) ?y ?h
  case f => exact fun y _ => y
  case h => walk_at "MyLit"
noncomputable def aP312 : Arguments := by
  refine (?f : (y : Arguments) → fnParams (stAt (clBody (stAt PB 55)) 1) = y → Arguments) ?y ?h
  case f => exact fun y _ => y
  case h => walk_at "MyLit"
noncomputable def aB312 : List Stmt := by
  refine (?f : (y : List Stmt) → fnBody (stAt (clBody (stAt PB 55)) 1) = y → List Stmt) ?y ?h
  case f => exact fun y _ => y
  case h => walk_at "MyLit"
noncomputable def aS312 : Scope := by
  refine (?f : (y : Scope) → fnScope (stAt (clBody (stAt PB 55)) 1) = y → Scope) ?y ?h
  case f => exact fun y _ => y
  case h => walk_at "MyLit"
noncomputable def aP317 : Arguments := by
  refine (?f : (y : Arguments) → fnParams (stAt (clBody (stAt PB 55)) 2) = y → Arguments) ?y ?h
  case f => exact fun y _ => y
  case h => walk_at "MyLit"
noncomputable def aB317 : List Stmt := by
  refine (?f : (y : List Stmt) → fnBody (stAt (clBody (stAt PB 55)) 2) = y → List Stmt) ?y ?h
  case f => exact fun y _ => y
  case h => walk_at "MyLit"
noncomputable def aS317 : Scope := by
  refine (?f : (y : Scope) → fnScope (stAt (clBody (stAt PB 55)) 2) = y → Scope) ?y ?h
  case f => exact fun y _ => y
  case h => walk_at "MyLit"
noncomputable def aP338 : Arguments := by
  refine (?f : (y : Arguments) → fnParams (stAt (clBody (stAt PB 56)) 0) = y → Arguments) ?y ?h
  case f => exact fun y _ => y
  case h => walk_at "MyLit"
noncomputable def aB338 : List Stmt := by
  refine (?f : (y : List Stmt) → fnBody (stAt (clBody (stAt PB 56)) 0) = y → List Stmt) ?y ?h
  case f => exact fun y _ => y
  case h => walk_at "MyLit"
noncomputable def aS338 : Scope := by
  refine (?f : (y : Scope) → fnScope (stAt (clBody (stAt PB 56)) 0) = y → Scope) ?y ?h
  case f => exact fun y _ => y
  case h => walk_at "MyLit"
noncomputable def aP345 : Arguments := by
  refine (?f : (y : Arguments) → fnParams (stAt (clBody (stAt PB 56)) 1) = y → Arguments) ?y ?h
  case f => exact fun y _ => y
  case h => walk_at "MyLit"
noncomputable def aB345 : List Stmt := by
  refine (?f : (y : List Stmt) → fnBody (stAt (clBody (stAt PB 56)) 1) = y → List Stmt) ?y ?h
  case f => exact fun y _ => y
  case h => walk_at "MyLit"
noncomputable def aS345 : Scope := by
  refine (?f : (y : Scope) → fnScope (stAt (clBody (stAt PB 56)) 1) = y → Scope) ?y ?h
  case f => exact fun y _ => y
  case h => walk_at "MyLit"
noncomputable def aP359 : Arguments := by
  refine (?f : (y : Arguments) → fnParams (stAt PB 57) = y → Arguments) ?y ?h
  case f => exact fun y _ => y
  case h => walk_at "MyLit"
noncomputable def aB359 : List Stmt := by
  refine (?f : (y : List Stmt) → fnBody (stAt PB 57) = y → List Stmt) ?y ?h
  case f => exact fun y _ => y
  case h => walk_at "MyLit"
noncomputable def aS359 : Scope := by
  refine (?f : (y : Scope) → fnScope (stAt PB 57) = y → Scope) ?y ?h
  case f => exact fun y _ => y
  case h => walk_at "MyLit"
noncomputable def aP364 : Arguments := by
  refine (?f : (y : Arguments) → fnParams (stAt PB 58) = y → Arguments) ?y ?h
  case f => exact fun y _ => y
  case h => walk_at "MyLit"
noncomputable def aB364 : List Stmt := by
  refine (?f : (y : List Stmt) → fnBody (stAt PB 58) = y → List Stmt) ?y ?h
  case f => exact fun y _ => y
  case h => walk_at "MyLit"
noncomputable def aS364 : Scope := by
  refine (?f : (y : Scope) → fnScope (stAt PB 58) = y → Scope) ?y ?h
  case f => exact fun y _ => y
  case h => walk_at "MyLit"
noncomputable def aP371 : Arguments := by
  refine (?f : (y : Arguments) → fnParams (stAt PB 59) = y → Arguments) ?y ?h
  case f => exact fun y _ => y
  case h => walk_at "MyLit"
noncomputable def aB371 : List Stmt := by
  refine (?f : (y : List Stmt) → fnBody (stAt PB 59) = y → List Stmt) ?y ?h
  case f => exact fun y _ => y
  case h => walk_at "MyLit"
noncomputable def aS371 : Scope := by
  refine (?f : (y : Scope) → fnScope (stAt PB 59) = y → Scope) ?y ?h
  case f => exact fun y _ => y
  case h => walk_at "MyLit"
noncomputable def aP378 : Arguments := by
  refine (?f : (y : Arguments) → fnParams (stAt PB 60) = y → Arguments) ?y ?h
  case f => exact fun y _ => y
  case h => walk_at "MyLit"
noncomputable def aB378 : List Stmt := by
  refine (?f : (y : List Stmt) → fnBody (stAt PB 60) = y → List Stmt) ?y ?h
  case f => exact fun y _ => y
  case h => walk_at "MyLit"
noncomputable def aS378 : Scope := by
  refine (?f : (y : Scope) → fnScope (stAt PB 60) = y → Scope) ?y ?h
  case f => exact fun y _ => y
  case h => walk_at "MyLit"
noncomputable def aP383 : Arguments := by
  refine (?f : (y : Arguments) → fnParams (stAt PB 61) = y → Arguments) ?y ?h
  case f => exact fun y _ => y
  case h => walk_at "MyLit"
noncomputable def aB383 : List Stmt := by
  refine (?f : (y : List Stmt) → fnBody (stAt PB 61) = y → List Stmt) ?y ?h
  case f => exact fun y _ => y
  case h => walk_at "MyLit"
noncomputable def aS383 : Scope := by
  refine (?f : (y : Scope) → fnScope (stAt PB 61) = y → Scope) ?y ?h
  case f => exact fun y _ => y
  case h => walk_at "MyLit"
noncomputable def aP397 : Arguments := by
  refine (?f : (y : Arguments) → fnParams (stAt (clBody (stAt PB 62)) 0) = y → Arguments) ?y ?h
  case f => exact fun y _ => y
  case h => walk_at "MyLit"
noncomputable def aB397 : List Stmt := by
  refine (?f : (y : List Stmt) → fnBody (stAt (clBody (stAt PB 62)) 0) = y → List Stmt) ?y ?h
  case f => exact fun y _ => y
  case h => walk_at "MyLit"
noncomputable def aS397 : Scope := by
  refine (?f : (y : Scope) → fnScope (stAt (clBody (stAt PB 62)) 0) = y → Scope) ?y ?h
  case f => exact fun y _ => y
  case h => walk_at "MyLit"
noncomputable def aP404 : Arguments := by
  refine (?f : (y : Arguments) → fnParams (stAt (clBody (stAt PB 62)) 1) = y → Arguments) ?y ?h
  case f => exact fun y _ => y
  case h => walk_at "MyLit"
noncomputable def aB404 : List Stmt := by
  refine (?f : (y : List Stmt) → fnBody (stAt (clBody (stAt PB 62)) 1) = y → List Stmt) ?y ?h
  case f => exact fun y _ => y
  case h => walk_at "MyLit"
noncomputable def aS404 : Scope := by
  refine (?f : (y : Scope) → fnScope (stAt (clBody (stAt PB 62)) 1) = y → Scope) ?y ?h
  case f => exact fun y _ => y
  case h => walk_at "MyLit"
noncomputable def aP411 : Arguments := by
  refine (?f : (y : Arguments) → fnParams (stAt (clBody (stAt PB 62)) 2) = y → Arguments) ?y ?h
  case f => exact fun y _ => y
  case h => walk_at "MyLit"
noncomputable def aB411 : List Stmt := by
  refine (?f : (y : List Stmt) → fnBody (stAt (clBody (stAt PB 62)) 2) = y → List Stmt) ?y ?h
  case f => exact fun y _ => y
  case h => walk_at "MyLit"
noncomputable def aS411 : Scope := by
  refine (?f : (y : Scope) → fnScope (stAt (clBody (stAt PB 62)) 2) = y → Scope) ?y ?h
  case f => exact fun y _ => y
  case h => walk_at "MyLit"
noncomputable def aP418 : Arguments := by
  refine (?f : (y : Arguments) → fnParams (stAt (clBody (stAt PB 62)) 3) = y → Arguments) ?y ?h
  case f => exact fun y _ => y
  case h => walk_at "MyLit"
noncomputable def aB418 : List Stmt := by
  refine (?f : (y : List Stmt) → fnBody (stAt (clBody (stAt PB 62)) 3) = y → List Stmt) ?y ?h
  case f => exact fun y _ => y
  case h => walk_at "MyLit"
noncomputable def aS418 : Scope := by
  refine (?f : (y : Scope) → fnScope (stAt (clBody (stAt PB 62)) 3) = y → Scope) ?y ?h
  case f => exact fun y _ => y
  case h => walk_at "MyLit"
noncomputable def aP425 : Arguments := by
  refine (?f : (y : Arguments) → fnParams (stAt (clBody (stAt PB 62)) 4) = y → Arguments) ?y ?h
  case f => exact fun y _ => y
  case h => walk_at "MyLit"
noncomputable def aB425 : List Stmt := by
  refine (?f : (y : List Stmt) → fnBody (stAt (clBody (stAt PB 62)) 4) = y → List Stmt) ?y ?h
  case f => exact fun y _ => y
  case h => walk_at "MyLit"
noncomputable def aS425 : Scope := by
  refine (?f : (y : Scope) → fnScope (stAt (clBody (stAt PB 62)) 4) = y → Scope) ?y ?h
  case f => exact fun y _ => y
  case h => walk_at "MyLit"
noncomputable def aP432 : Arguments := by
  refine (?f : (y : Arguments) → fnParams (stAt (clBody (stAt PB 62)) 5) = y → Arguments) ?y ?h
  case f => exact fun y _ => y
  case h => walk_at "MyLit"
noncomputable def aB432 : List Stmt := by
  refine (?f : (y : List Stmt) → fnBody (stAt (clBody (stAt PB 62)) 5) = y → List Stmt) ?y ?h
  case f => exact fun y _ => y
  case h => walk_at "MyLit"
noncomputable def aS432 : Scope := by
  refine (?f : (y : Scope) → fnScope (stAt (clBody (stAt PB 62)) 5) = y → Scope) ?y ?h
  case f => exact fun y _ => y
  case h => walk_at "MyLit"
noncomputable def aP439 : Arguments := by
  refine (?f : (y : Arguments) → fnParams (stAt (clBody (stAt PB 62)) 6) = y → Arguments) ?y ?h
  case f => exact fun y _ => y
  case h => walk_at "MyLit"
noncomputable def aB439 : List Stmt := by
  refine (?f : (y : List Stmt) → fnBody (stAt (clBody (stAt PB 62)) 6) = y → List Stmt) ?y ?h
  case f => exact fun y _ => y
  case h => walk_at "MyLit"
noncomputable def aS439 : Scope := by
  refine (?f : (y : Scope) → fnScope (stAt (clBody (stAt PB 62)) 6) = y → Scope) ?y ?h
  case f => exact fun y _ => y
  case h => walk_at "MyLit"
noncomputable def aP446 : Arguments := by
  refine (?f : (y : Arguments) → fnParams (stAt (clBody (stAt PB 62)) 7) = y → Arguments) ?y ?h
  case f => exact fun y _ => y
  case h => walk_at "MyLit"
noncomputable def aB446 : List Stmt := by
  refine (?f : (y : List Stmt) → fnBody (stAt (clBody (stAt PB 62)) 7) = y → List Stmt) ?y ?h
  case f => exact fun y _ => y
  case h => walk_at "MyLit"
noncomputable def aS446 : Scope := by
  refine (?f : (y : Scope) → fnScope (stAt (clBody (stAt PB 62)) 7) = y → Scope) ?y ?h
  case f => exact fun y _ => y
  case h => walk_at "MyLit"
noncomputable def aP453 : Arguments := by
  refine (?f : (y : Arguments) → fnParams (stAt (clBody (stAt PB 62)) 8) = y → Arguments) ?y ?h
  case f => exact fun y _ => y
  case h => walk_at "MyLit"
noncomputable def aB453 : List Stmt := by
  refine (?f : (y : List Stmt) → fnBody (stAt (clBody (stAt PB 62)) 8) = y → List Stmt) ?y ?h
  case f => exact fun y _ => y
  case h => walk_at "MyLit"
noncomputable def aS453 : Scope := by
  refine (?f : (y : Scope) → fnScope (stAt (clBody (stAt PB 62)) 8) = y → Scope) ?y ?h
  case f => exact fun y _ => y
  case h => walk_at "MyLit"
noncomputable def aP460 : Arguments := by
  refine (?f : (y : Arguments) → fnParams (stAt (clBody (stAt PB 62)) 9) = y → Arguments) ?y ?h
  case f => exact fun y _ => y
  case h => walk_at "MyLit"
noncomputable def aB460 : List Stmt := by
  refine (?f : (y : List Stmt) → fnBody (stAt (clBody (stAt PB 62)) 9) = y → List Stmt) ?y ?h
  case f => exact fun y _ => y
  case h => walk_at "MyLit"
noncomputable def aS460 : Scope := by
  refine (?f : (y : Scope) → fnScope (stAt (clBody (stAt PB 62)) 9) = y → Scope) ?y ?h
  case f => exact fun y _ => y
  case h => walk_at "MyLit"
noncomputable def aP467 : Arguments := by
  refine (?f : (y : Arguments) → fnParams (stAt (clBody (stAt PB 62)) 10) = y → Arguments) ?y ?h
  case f => exact fun y _ => y
  case h => walk_at "MyLit"
noncomputable def aB467 : List Stmt := by
  refine (?f : (y : List Stmt) → fnBody (stAt (clBody (stAt PB 62)) 10) = y → List Stmt) ?y ?h
  case f => exact fun y _ => y
  case h => walk_at "MyLit"
noncomputable def aS467 : Scope := by
  refine (?f : (y : Scope) → fnScope (stAt (clBody (stAt PB 62)) 10) = y → Scope) ?y ?h
  case f => exact fun y _ => y
  case h => walk_at "MyLit"
noncomputable def aP474 : Arguments := by
  refine (?f : (y : Arguments) → fnParams (stAt (clBody (stAt PB 62)) 11) = y → Arguments) ?y ?h
  case f => exact fun y _ => y
  case h => walk_at "MyLit"
noncomputable def aB474 : List Stmt := by
  refine (?f : (y : List Stmt) → fnBody (stAt (clBody (stAt PB 62)) 11) = y → List Stmt) ?y ?h
  case f => exact fun y _ => y
  case h => walk_at "MyLit"
noncomputable def aS474 : Scope := by
  refine (?f : (y : Scope) → fnScope (stAt (clBody (stAt PB 62)) 11) = y → Scope) ?y ?h
  case f => exact fun y _ => y
  case h => walk_at "MyLit"
noncomputable def aP481 : Arguments := by
  refine (?f : (y : Arguments) → fnParams (stAt (clBody (stAt PB 62)) 12) = y → Arguments) ?y ?h
  case f => exact fun y _ => y
  case h => walk_at "MyLit"
noncomputable def aB481 : List Stmt := by
  refine (?f : (y : List Stmt) → fnBody (stAt (clBody (stAt PB 62)) 12) = y → List Stmt) ?y ?h
  case f => exact fun y _ => y
  case h => walk_at "MyLit"
noncomputable def aS481 : Scope := by
  refine (?f : (y : Scope) → fnScope (stAt (clBody (stAt PB 62)) 12) = y → Scope) ?y ?h
  case f => exact fun y _ => y
  case h => walk_at "MyLit"
noncomputable def aP488 : Arguments := by
  refine (?f : (y : Arguments) → fnParams (stAt (clBody (stAt PB 62)) 13) = y → Arguments) ?y ?h
  case f => exact fun y _ => y
  case h => walk_at "MyLit"
noncomputable def aB488 : List Stmt := by
  refine (?f : (y : List Stmt) → fnBody (stAt (clBody (stAt PB 62)) 13) = y → List Stmt) ?y ?h
  case f => exact fun y _ => y
  case h => walk_at "MyLit"
noncomputable def aS488 : Scope := by
  refine (?f : (y : Scope) → fnScope (stAt (clBody (stAt PB 62)) 13) = y → Scope) ?y ?h
  case f => exact fun y _ => y
  case h => walk_at "MyLit"
noncomputable def aP495 : Arguments := by
  refine (?f : (y : Arguments) → fnParams (stAt (clBody (stAt PB 62)) 14) = y → Arguments) ?y ?h
  case f => exact fun y _ => y
  case h => walk_at "MyLit"
noncomputable def aB495 : List Stmt := by
  refine (?f : (y : List Stmt) → fnBody (stAt (clBody (stAt PB 62)) 14) = y → List Stmt) ?y ?h
  case f => exact fun y _ => y
  case h => walk_at "MyLit"
noncomputable def aS495 : Scope := by
  refine (?f : (y : Scope) → fnScope (stAt (clBody (stAt PB 62)) 14) = y → Scope) ?y ?h
  case f => exact fun y _ => y
  case h => walk_at "MyLit"
noncomputable def aP502 : Arguments := by
  refine (?f : (y : Arguments) → fnParams (stAt (clBody (stAt PB 62)) 15) = y → Arguments) ?y ?h
  case f => exact fun y _ => y
  case h => walk_at "MyLit"
noncomputable def aB502 : List Stmt := by
  refine (?f : (y : List Stmt) → fnBody (stAt (clBody (stAt PB 62)) 15) = y → List Stmt) ?y ?h
  case f => exact fun y _ => y
  case h => walk_at "MyLit"
noncomputable def aS502 : Scope := by
  refine (?f : (y : Scope) → fnScope (stAt (clBody (stAt PB 62)) 15) = y → Scope) ?y ?h
  case f => exact fun y _ => y
  case h => walk_at "MyLit"
noncomputable def aP514 : Arguments := by
  refine (?f : (y : Arguments) → fnParams (stAt PB 63) = y → Arguments) ?y ?h
  case f => exact fun y _ => y
  case h => walk_at "MyLit"
noncomputable def aB514 : List Stmt := by
  refine (?f : (y : List Stmt) → fnBody (stAt PB 63) = y → List Stmt) ?y ?h
  case f => exact fun y _ => y
  case h => walk_at "MyLit"
noncomputable def aS514 : Scope := by
  refine (?f : (y : Scope) → fnScope (stAt PB 63) = y → Scope) ?y ?h
  case f => exact fun y _ => y
  case h => walk_at "MyLit"
noncomputable def aP519 : Arguments := by
  refine (?f : (y : Arguments) → fnParams (stAt PB 64) = y → Arguments) ?y ?h
  case f => exact fun y _ => y
  case h => walk_at "MyLit"
noncomputable def aB519 : List Stmt := by
  refine (?f : (y : List Stmt) → fnBody (stAt PB 64) = y → List Stmt) ?y ?h
  case f => exact fun y _ => y
  case h => walk_at "MyLit"
noncomputable def aS519 : Scope := by
  refine (?f : (y : Scope) → fnScope (stAt PB 64) = y → Scope) ?y ?h
  case f => exact fun y _ => y
  case h => walk_at "MyLit"
noncomputable def aP526 : Arguments := by
  refine (?f : (y : Arguments) → fnParams (stAt PB 65) = y → Arguments) ?y ?h
  case f => exact fun y _ => y
  case h => walk_at "MyLit"
noncomputable def aB526 : List Stmt := by
  refine (?f : (y : List Stmt) → fnBody (stAt PB 65) = y → List Stmt) ?y ?h
  case f => exact fun y _ => y
  case h => walk_at "MyLit"
noncomputable def aS526 : Scope := by
  refine (?f : (y : Scope) → fnScope (stAt PB 65) = y → Scope) ?y ?h
  case f => exact fun y _ => y
  case h => walk_at "MyLit"
noncomputable def aP531 : Arguments := by
  refine (?f : (y : Arguments) → fnParams (stAt PB 66) = y → Arguments) ?y ?h
  case f => exact fun y _ => y
  case h => walk_at "MyLit"
noncomputable def aB531 : List Stmt := by
  refine (?f : (y : List Stmt) → fnBody (stAt PB 66) = y → List Stmt) ?y ?h
  case f => exact fun y _ => y
  case h => walk_at "MyLit"
noncomputable def aS531 : Scope := by
  refine (?f : (y : Scope) → fnScope (stAt PB 66) = y → Scope) ?y ?h
  case f => exact fun y _ => y
  case h => walk_at "MyLit"
noncomputable def aP538 : Arguments := by
  refine (?f : (y : Arguments) → fnParams (stAt PB 68) = y → Arguments) ?y ?h
  case f => exact fun y _ => y
  case h => walk_at "MyLit"
noncomputable def aB538 : List Stmt := by
  refine (?f : (y : List Stmt) → fnBody (stAt PB 68) = y → List Stmt) ?y ?h
  case f => exact fun y _ => y
  case h => walk_at "MyLit"
noncomputable def aS538 : Scope := by
  refine (?f : (y : Scope) → fnScope (stAt PB 68) = y → Scope) ?y ?h
  case f => exact fun y _ => y
  case h => walk_at "MyLit"
noncomputable def aP545 : Arguments := by
  refine (?f : (y : Arguments) → fnParams (stAt PB 69) = y → Arguments) ?y ?h
  case f => exact fun y _ => y
  case h => walk_at "MyLit"
noncomputable def aB545 : List Stmt := by
  refine (?f : (y : List Stmt) → fnBody (stAt PB 69) = y → List Stmt) ?y ?h
  case f => exact fun y _ => y
  case h => walk_at "MyLit"
noncomputable def aS545 : Scope := by
  refine (?f : (y : Scope) → fnScope (stAt PB 69) = y → Scope) ?y ?h
  case f => exact fun y _ => y
  case h => walk_at "MyLit"
noncomputable def aP552 : Arguments := by
  refine (?f : (y : Arguments) → fnParams (stAt PB 70) = y → Arguments) ?y ?h
  case f => exact fun y _ => y
  case h => walk_at "MyLit"
noncomputable def aB552 : List Stmt := by
  refine (?f : (y : List Stmt) → fnBody (stAt PB 70) = y → List Stmt) ?y ?h
  case f => exact fun y _ => y
  case h => walk_at "MyLit"
noncomputable def aS552 : Scope := by
  refine (?f : (y : Scope) → fnScope (stAt PB 70) = y → Scope) ?y ?h
  case f => exact fun y _ => y
  case h => walk_at "MyLit"
noncomputable def aP559 : Arguments := by
  refine (?f : (y : Arguments) → fnParams (stAt PB 71) = y → Arguments) ?y ?h
  case f => exact fun y _ => y
  case h => walk_at "MyLit"
noncomputable def aB559 : List Stmt := by
  refine (?f : (y : List Stmt) → fnBody (stAt PB 71) = y → List Stmt) ?y ?h
  case f => exact fun y _ => y
  case h => walk_at "MyLit"
noncomputable def aS559 : Scope := by
  refine (?f : (y : Scope) → fnScope (stAt PB 71) = y → Scope) ?y ?h
  case f => exact fun y _ => y
  case h => walk_at "MyLit"
noncomputable def aP564 : Arguments := by
  refine (?f : (y : Arguments) → fnParams (stAt PB 72) = y → Arguments) ?y ?h
  case f => exact fun y _ => y
  case h => walk_at "MyLit"
noncomputable def aB564 : List Stmt := by
  refine (?f : (y : List Stmt) → fnBody (stAt PB 72) = y → List Stmt) ?y ?h
  case f => exact fun y _ => y
  case h => walk_at "MyLit"
noncomputable def aS564 : Scope := by
  refine (?f : (y : Scope) → fnScope (stAt PB 72) = y → Scope) ?y ?h
  case f => exact fun y _ => y
  case h => walk_at "MyLit"
noncomputable def hdK (P : Params) : Frag := by
  refine (?f : (y : Frag) → (List.cons ((nat_lit 2), (Obj.mk Value.none (Option.none) (Data.dict (List.toArray [(DictEntry.mk (PyData.keyHash P (Str.ofString "type.__subclasses__.Exception.0")) (Value.str (Str.ofString "type.__subclasses__.Exception.0") (255 : Nat)) (Value.int (62 : Int) (0 : Nat))), (DictEntry.mk (PyData.keyHash P (Str.ofString "type.__subclasses__.Exception.n")) (Value.str (Str.ofString "type.__subclasses__.Exception.n") (256 : Nat)) (Value.int (1 : Int) (0 : Nat)))]) (2 : Nat)) (List.toArray []))) (
List.cons ((nat_lit 3), (Obj.mk (Value.type "dict") (Option.none) (Data.dict (List.toArray [(DictEntry.mk (PyData.keyHash P (Str.ofString "__name__")) (Value.str (Str.ofString "__name__") (165 : Nat)) (Value.str (Str.ofString "law_pb0273_01") (940 : Nat))), (DictEntry.mk (PyData.keyHash P (Str.ofString "__doc__")) (Value.str (Str.ofString "__doc__") (166 : Nat)) Value.none), (DictEntry.mk (PyData.keyHash P (Str.ofString "__package__")) (Value.str (Str.ofString "__package__") (167 : Nat)) Value.none), (DictEntry.mk (PyData.keyHash P (Str.ofString "__loader__")) (Value.str (Str.ofString "__loader__") (168 : Nat)) (Value.builtin "__main__.__loader__#opaque")), (DictEntry.mk (PyData.keyHash P (Str.ofString "__spec__")) (Value.str (Str.ofString "__spec__") (169 : Nat)) Value.none), (DictEntry.mk (PyData.keyHash P (Str.ofString "__annotations__")) (Value.str (Str.ofString "__annotations__") (170 : Nat)) (Value.ref (6 : Nat))), (DictEntry.mk (PyData.keyHash P (Str.ofString "__builtins__")) (Value.str (Str.ofString "__builtins__") (171 : Nat)) (Value.ref (4 : Nat))), (DictEntry.mk (PyData.keyHash P (Str.ofString "__file__")) (Value.str (Str.ofString "__file__") (173 : Nat)) (Value.str (Str.ofString "/claim/cut.py") (172 : Nat))), (DictEntry.mk (PyData.keyHash P (Str.ofString "__cached__")) (Value.str (Str.ofString "__cached__") (174 : Nat)) Value.none), (DictEntry.mk (PyData.keyHash P (Str.ofString "cut_quotient")) (Value.str (Str.ofString "cut_quotient") (196 : Nat)) (Value.ref (21 : Nat))), (DictEntry.mk (PyData.keyHash P (Str.ofString "decimal")) (Value.str (Str.ofString "decimal") (205 : Nat)) (Value.ref (29 : Nat))), (DictEntry.mk (PyData.keyHash P (Str.ofString "units_at")) (Value.str (Str.ofString "units_at") (216 : Nat)) (Value.ref (36 : Nat))), (DictEntry.mk (PyData.keyHash P (Str.ofString "LedgerError")) (Value.str (Str.ofString "LedgerError") (258 : Nat)) (Value.ref (62 : Nat))), (DictEntry.mk (PyData.keyHash P (Str.ofString "PictureFault")) (Value.str (Str.ofString "PictureFault") (274 : Nat)) (Value.ref (75 : Nat))), (DictEntry.mk (PyData.keyHash P (Str.ofString "DataFault")) (Value.str (Str.ofString "DataFault") (290 : Nat)) (Value.ref (87 : Nat))), (DictEntry.mk (PyData.keyHash P (Str.ofString "RunFault")) (Value.str (Str.ofString "RunFault") (306 : Nat)) (Value.ref (99 : Nat))), (DictEntry.mk (PyData.keyHash P (Str.ofString "USAGES")) (Value.str (Str.ofString "USAGES") (310 : Nat)) (Value.str (Str.ofString "display packed binary index") (309 : Nat))), (DictEntry.mk (PyData.keyHash P (Str.ofString "MOST_DIGITS_shapes")) (Value.str (Str.ofString "MOST_DIGITS_shapes") (312 : Nat)) (Value.int (18 : Int) (311 : Nat))), (DictEntry.mk (PyData.keyHash P (Str.ofString "Shape")) (Value.str (Str.ofString "Shape") (377 : Nat)) (Value.ref (133 : Nat))), (DictEntry.mk (PyData.keyHash P (Str.ofString "unit_bound")) (Value.str (Str.ofString "unit_bound") (384 : Nat)) (Value.ref (144 : Nat))), (DictEntry.mk (PyData.keyHash P (Str.ofString "binary_width")) (Value.str (Str.ofString "binary_width") (391 : Nat)) (Value.ref (151 : Nat))), (DictEntry.mk (PyData.keyHash P (Str.ofString "packed_width")) (Value.str (Str.ofString "packed_width") (398 : Nat)) (Value.ref (158 : Nat))), (DictEntry.mk (PyData.keyHash P (Str.ofString "size_for")) (Value.str (Str.ofString "size_for") (407 : Nat)) (Value.ref (165 : Nat))), (DictEntry.mk (PyData.keyHash P (Str.ofString "check_usage")) (Value.str (Str.ofString "check_usage") (415 : Nat)) (Value.ref (172 : Nat))), (DictEntry.mk (PyData.keyHash P (Str.ofString "check_sign")) (Value.str (Str.ofString "check_sign") (425 : Nat)) (Value.ref (179 : Nat))), (DictEntry.mk (PyData.keyHash P (Str.ofString "check_clauses")) (Value.str (Str.ofString "check_clauses") (431 : Nat)) (Value.ref (184 : Nat))), (DictEntry.mk (PyData.keyHash P (Str.ofString "shape_of")) (Value.str (Str.ofString "shape_of") (446 : Nat)) (Value.ref (192 : Nat))), (DictEntry.mk (PyData.keyHash P (Str.ofString "NOUGHT")) (Value.str (Str.ofString "NOUGHT") (450 : Nat)) (Value.int (48 : Int) (449 : Nat))), (DictEntry.mk (PyData.keyHash P (Str.ofString "PLUS")) (Value.str (Str.ofString "PLUS") (452 : Nat)) (Value.int (43 : Int) (451 : Nat))), (DictEntry.mk (PyData.keyHash P (Str.ofString "MINUS")) (Value.str (Str.ofString "MINUS") (454 : Nat)) (Value.int (45 : Int) (453 : Nat))), (DictEntry.mk (PyData.keyHash P (Str.ofString "PLUS_FIGURES")) (Value.str (Str.ofString "PLUS_FIGURES") (456 : Nat)) (Value.bytes (List.toArray [(123 : UInt8), (65 : UInt8), (66 : UInt8), (67 : UInt8), (68 : UInt8), (69 : UInt8), (70 : UInt8), (71 : UInt8), (72 : UInt8), (73 : UInt8)]) (455 : Nat))), (DictEntry.mk (PyData.keyHash P (Str.ofString "MINUS_FIGURES")) (Value.str (Str.ofString "MINUS_FIGURES") (458 : Nat)) (Value.bytes (List.toArray [(125 : UInt8), (74 : UInt8), (75 : UInt8), (76 : UInt8), (77 : UInt8), (78 : UInt8), (79 : UInt8), (80 : UInt8), (81 : UInt8), (82 : UInt8)]) (457 : Nat))), (DictEntry.mk (PyData.keyHash P (Str.ofString "PACKED_PLUS")) (Value.str (Str.ofString "PACKED_PLUS") (460 : Nat)) (Value.int (12 : Int) (459 : Nat))), (DictEntry.mk (PyData.keyHash P (Str.ofString "PACKED_MINUS")) (Value.str (Str.ofString "PACKED_MINUS") (462 : Nat)) (Value.int (13 : Int) (461 : Nat))), (DictEntry.mk (PyData.keyHash P (Str.ofString "PACKED_PLAIN")) (Value.str (Str.ofString "PACKED_PLAIN") (464 : Nat)) (Value.int (15 : Int) (463 : Nat))), (DictEntry.mk (PyData.keyHash P (Str.ofString "kept_units")) (Value.str (Str.ofString "kept_units") (473 : Nat)) (Value.ref (199 : Nat))), (DictEntry.mk (PyData.keyHash P (Str.ofString "figures_for")) (Value.str (Str.ofString "figures_for") (484 : Nat)) (Value.ref (206 : Nat))), (DictEntry.mk (PyData.keyHash P (Str.ofString "display_octets")) (Value.str (Str.ofString "display_octets") (490 : Nat)) (Value.ref (211 : Nat))), (DictEntry.mk (PyData.keyHash P (Str.ofString "packed_octets")) (Value.str (Str.ofString "packed_octets") (496 : Nat)) (Value.ref (216 : Nat))), (DictEntry.mk (PyData.keyHash P (Str.ofString "binary_octets")) (Value.str (Str.ofString "binary_octets") (507 : Nat)) (Value.ref (223 : Nat))), (DictEntry.mk (PyData.keyHash P (Str.ofString "octets_for")) (Value.str (Str.ofString "octets_for") (516 : Nat)) (Value.ref (230 : Nat))), (DictEntry.mk (PyData.keyHash P (Str.ofString "joined_figures")) (Value.str (Str.ofString "joined_figures") (526 : Nat)) (Value.ref (237 : Nat))), (DictEntry.mk (PyData.keyHash P (Str.ofString "signed_figure")) (Value.str (Str.ofString "signed_figure") (533 : Nat)) (Value.ref (244 : Nat))), (DictEntry.mk (PyData.keyHash P (Str.ofString "display_units")) (Value.str (Str.ofString "display_units") (539 : Nat)) (Value.ref (249 : Nat))), (DictEntry.mk (PyData.keyHash P (Str.ofString "packed_units")) (Value.str (Str.ofString "packed_units") (551 : Nat)) (Value.ref (256 : Nat))), (DictEntry.mk (PyData.keyHash P (Str.ofString "binary_units")) (Value.str (Str.ofString "binary_units") (561 : Nat)) (Value.ref (263 : Nat))), (DictEntry.mk (PyData.keyHash P (Str.ofString "units_in")) (Value.str (Str.ofString "units_in") (570 : Nat)) (Value.ref (270 : Nat))), (DictEntry.mk (PyData.keyHash P (Str.ofString "is_number_in")) (Value.str (Str.ofString "is_number_in") (578 : Nat)) (Value.ref (277 : Nat))), (DictEntry.mk (PyData.keyHash P (Str.ofString "number_in")) (Value.str (Str.ofString "number_in") (586 : Nat)) (Value.ref (284 : Nat))), (DictEntry.mk (PyData.keyHash P (Str.ofString "cut_octets")) (Value.str (Str.ofString "cut_octets") (594 : Nat)) (Value.ref (291 : Nat))), (DictEntry.mk (PyData.keyHash P (Str.ofString "SIGNS")) (Value.str (Str.ofString "SIGNS") (598 : Nat)) (Value.str (Str.ofString "ABPSVXZ90/,.+-*$") (597 : Nat))), (DictEntry.mk (PyData.keyHash P (Str.ofString "TEXT_SIGNS")) (Value.str (Str.ofString "TEXT_SIGNS") (600 : Nat)) (Value.str (Str.ofString "A X 9 B 0 /") (599 : Nat))), (DictEntry.mk (PyData.keyHash P (Str.ofString "PLAIN_SIGNS")) (Value.str (Str.ofString "PLAIN_SIGNS") (602 : Nat)) (Value.str (Str.ofString "9 P S V") (601 : Nat))), (DictEntry.mk (PyData.keyHash P (Str.ofString "LAID_NOWHERE")) (Value.str (Str.ofString "LAID_NOWHERE") (604 : Nat)) (Value.str (Str.ofString "P S V") (603 : Nat))), (DictEntry.mk (PyData.keyHash P (Str.ofString "ALONE")) (Value.str (Str.ofString "ALONE") (606 : Nat)) (Value.str (Str.ofString "S V . CR DB") (605 : Nat))), (DictEntry.mk (PyData.keyHash P (Str.ofString "FIGURES")) (Value.str (Str.ofString "FIGURES") (608 : Nat)) (Value.str (Str.ofString "0123456789") (607 : Nat))), (DictEntry.mk (PyData.keyHash P (Str.ofString "MOST_TEXT")) (Value.str (Str.ofString "MOST_TEXT") (610 : Nat)) (Value.int (30 : Int) (609 : Nat))), (DictEntry.mk (PyData.keyHash P (Str.ofString "MOST_DIGITS_pictures")) (Value.str (Str.ofString "MOST_DIGITS_pictures") (612 : Nat)) (Value.int (18 : Int) (611 : Nat))), (DictEntry.mk (PyData.keyHash P (Str.ofString "MOST_SIZE")) (Value.str (Str.ofString "MOST_SIZE") (614 : Nat)) (Value.int (9999 : Int) (613 : Nat))), (DictEntry.mk (PyData.keyHash P (Str.ofString "Picture")) (Value.str (Str.ofString "Picture") (668 : Nat)) (Value.ref (320 : Nat))), (DictEntry.mk (PyData.keyHash P (Str.ofString "Sign")) (Value.str (Str.ofString "Sign") (708 : Nat)) (Value.ref (348 : Nat))), (DictEntry.mk (PyData.keyHash P (Str.ofString "sign_at")) (Value.str (Str.ofString "sign_at") (716 : Nat)) (Value.ref (359 : Nat))), (DictEntry.mk (PyData.keyHash P (Str.ofString "count_at")) (Value.str (Str.ofString "count_at") (722 : Nat)) (Value.ref (364 : Nat))), (DictEntry.mk (PyData.keyHash P (Str.ofString "signs_of")) (Value.str (Str.ofString "signs_of") (734 : Nat)) (Value.ref (371 : Nat))), (DictEntry.mk (PyData.keyHash P (Str.ofString "symbols_of")) (Value.str (Str.ofString "symbols_of") (743 : Nat)) (Value.ref (378 : Nat))), (DictEntry.mk (PyData.keyHash P (Str.ofString "size_of_symbols")) (Value.str (Str.ofString "size_of_symbols") (749 : Nat)) (Value.ref (383 : Nat))), (DictEntry.mk (PyData.keyHash P (Str.ofString "Order")) (Value.str (Str.ofString "Order") (911 : Nat)) (Value.ref (505 : Nat))), (DictEntry.mk (PyData.keyHash P (Str.ofString "number_picture")) (Value.str (Str.ofString "number_picture") (917 : Nat)) (Value.ref (514 : Nat))), (DictEntry.mk (PyData.keyHash P (Str.ofString "text_category")) (Value.str (Str.ofString "text_category") (923 : Nat)) (Value.ref (519 : Nat))), (DictEntry.mk (PyData.keyHash P (Str.ofString "text_picture")) (Value.str (Str.ofString "text_picture") (933 : Nat)) (Value.ref (526 : Nat))), (DictEntry.mk (PyData.keyHash P (Str.ofString "read_picture")) (Value.str (Str.ofString "read_picture") (939 : Nat)) (Value.ref (531 : Nat))), (DictEntry.mk (PyData.keyHash P (Str.ofString "_law_pictures")) (Value.str (Str.ofString "_law_pictures") (948 : Nat)) (Value.ref (538 : Nat))), (DictEntry.mk (PyData.keyHash P (Str.ofString "_law_left")) (Value.str (Str.ofString "_law_left") (960 : Nat)) (Value.ref (545 : Nat))), (DictEntry.mk (PyData.keyHash P (Str.ofString "_law_decimal")) (Value.str (Str.ofString "_law_decimal") (968 : Nat)) (Value.ref (552 : Nat))), (DictEntry.mk (PyData.keyHash P (Str.ofString "_law_right")) (Value.str (Str.ofString "_law_right") (980 : Nat)) (Value.ref (559 : Nat))), (DictEntry.mk (PyData.keyHash P (Str.ofString "law")) (Value.str (Str.ofString "law") (986 : Nat)) (Value.ref (564 : Nat)))]) (76 : Nat)) (List.toArray []))) (
List.cons ((nat_lit 15), (Obj.mk (Value.type "tuple") (Option.none) (Data.seq (List.toArray []) (0 : Nat)) (List.toArray []))) (
List.cons ((nat_lit 17), (Obj.mk (Value.type "tuple") (Option.none) (Data.seq (List.toArray [(Value.str (Str.ofString "top") (192 : Nat)), (Value.str (Str.ofString "bottom") (193 : Nat))]) (0 : Nat)) (List.toArray []))) (
List.cons ((nat_lit 18), (Obj.mk (Value.type "tuple") (Option.none) (Data.seq (List.toArray []) (0 : Nat)) (List.toArray []))) (
List.cons ((nat_lit 20), (Obj.mk (Value.type "code") (Option.none) (Data.fields (List.toArray [(Value.str (Str.ofString "cut_quotient") (189 : Nat)), (Value.str (Str.ofString "cut_quotient") (190 : Nat)), (Value.str (Str.ofString "/claim/cut.py") (191 : Nat)), (Value.int (2 : Int) (0 : Nat)), (Value.int (2 : Int) (0 : Nat)), (Value.int (0 : Int) (0 : Nat)), (Value.int (0 : Int) (0 : Nat)), (Value.int (3 : Int) (0 : Nat)), (Value.ref (15 : Nat)), (Value.bool Bool.true), (Value.int (181 : Int) (0 : Nat)), (Value.ref (16 : Nat)), Value.none, (Value.ref (17 : Nat)), (Value.ref (18 : Nat)), (Value.ref (19 : Nat)), (Value.int (194 : Int) (0 : Nat)), (Value.int (2 : Int) (0 : Nat)), (Value.str (Str.ofString "/claim/cut.py") (195 : Nat))])) (List.toArray []))) (
List.cons ((nat_lit 21), (Obj.mk (Value.type "function") (Option.none) (Data.func (FuncData.mk (Str.ofString "cut_quotient") (Str.ofString "cut_quotient") aP21 (FuncBody.stmts aB21) aS21 (3 : Nat) [] Value.none Value.none Value.none (Value.str (Str.ofString "ledgerspeak.decimals") (187 : Nat)) (Option.none) (Value.ref (20 : Nat)) Value.none (0 : Nat))) (List.toArray []))) (
List.cons ((nat_lit 22), (Obj.mk (Value.type "tuple") (Option.none) (Data.seq (List.toArray [(Value.int (0 : Int) (197 : Nat))]) (0 : Nat)) (List.toArray []))) (
List.cons ((nat_lit 23), (Obj.mk (Value.type "tuple") (Option.none) (Data.seq (List.toArray []) (0 : Nat)) (List.toArray []))) (
List.cons ((nat_lit 25), (Obj.mk (Value.type "tuple") (Option.none) (Data.seq (List.toArray [(Value.str (Str.ofString "units") (201 : Nat)), (Value.str (Str.ofString "scale") (202 : Nat))]) (0 : Nat)) (List.toArray []))) (
List.cons ((nat_lit 26), (Obj.mk (Value.type "tuple") (Option.none) (Data.seq (List.toArray []) (0 : Nat)) (List.toArray []))) (
List.cons ((nat_lit 28), (Obj.mk (Value.type "code") (Option.none) (Data.fields (List.toArray [(Value.str (Str.ofString "decimal") (198 : Nat)), (Value.str (Str.ofString "decimal") (199 : Nat)), (Value.str (Str.ofString "/claim/cut.py") (200 : Nat)), (Value.int (6 : Int) (0 : Nat)), (Value.int (2 : Int) (0 : Nat)), (Value.int (0 : Int) (0 : Nat)), (Value.int (0 : Int) (0 : Nat)), (Value.int (3 : Int) (0 : Nat)), (Value.ref (23 : Nat)), (Value.bool Bool.true), (Value.int (181 : Int) (0 : Nat)), (Value.ref (24 : Nat)), Value.none, (Value.ref (25 : Nat)), (Value.ref (26 : Nat)), (Value.ref (27 : Nat)), (Value.int (203 : Int) (0 : Nat)), (Value.int (6 : Int) (0 : Nat)), (Value.str (Str.ofString "/claim/cut.py") (204 : Nat))])) (List.toArray []))) (
List.cons ((nat_lit 29), (Obj.mk (Value.type "function") (Option.none) (Data.func (FuncData.mk (Str.ofString "decimal") (Str.ofString "decimal") aP29 (FuncBody.stmts aB29) aS29 (3 : Nat) [] (Value.ref (22 : Nat)) Value.none Value.none (Value.str (Str.ofString "ledgerspeak.decimals") (187 : Nat)) (Option.none) (Value.ref (28 : Nat)) Value.none (0 : Nat))) (List.toArray []))) (
List.cons ((nat_lit 30), (Obj.mk (Value.type "tuple") (Option.none) (Data.seq (List.toArray []) (0 : Nat)) (List.toArray []))) (
List.cons ((nat_lit 32), (Obj.mk (Value.type "tuple") (Option.none) (Data.seq (List.toArray [(Value.str (Str.ofString "a") (209 : Nat)), (Value.str (Str.ofString "scale") (210 : Nat)), (Value.str (Str.ofString "is_rounded") (211 : Nat)), (Value.str (Str.ofString "size") (212 : Nat)), (Value.str (Str.ofString "half") (213 : Nat))]) (0 : Nat)) (List.toArray []))) (
List.cons ((nat_lit 33), (Obj.mk (Value.type "tuple") (Option.none) (Data.seq (List.toArray []) (0 : Nat)) (List.toArray []))) (
List.cons ((nat_lit 35), (Obj.mk (Value.type "code") (Option.none) (Data.fields (List.toArray [(Value.str (Str.ofString "units_at") (206 : Nat)), (Value.str (Str.ofString "units_at") (207 : Nat)), (Value.str (Str.ofString "/claim/cut.py") (208 : Nat)), (Value.int (13 : Int) (0 : Nat)), (Value.int (3 : Int) (0 : Nat)), (Value.int (0 : Int) (0 : Nat)), (Value.int (0 : Int) (0 : Nat)), (Value.int (3 : Int) (0 : Nat)), (Value.ref (30 : Nat)), (Value.bool Bool.true), (Value.int (181 : Int) (0 : Nat)), (Value.ref (31 : Nat)), Value.none, (Value.ref (32 : Nat)), (Value.ref (33 : Nat)), (Value.ref (34 : Nat)), (Value.int (214 : Int) (0 : Nat)), (Value.int (13 : Int) (0 : Nat)), (Value.str (Str.ofString "/claim/cut.py") (215 : Nat))])) (List.toArray []))) (
List.cons ((nat_lit 36), (Obj.mk (Value.type "function") (Option.none) (Data.func (FuncData.mk (Str.ofString "units_at") (Str.ofString "units_at") aP36 (FuncBody.stmts aB36) aS36 (3 : Nat) [] Value.none Value.none Value.none (Value.str (Str.ofString "ledgerspeak.decimals") (187 : Nat)) (Option.none) (Value.ref (35 : Nat)) Value.none (0 : Nat))) (List.toArray []))) (
List.cons ((nat_lit 37), (Obj.mk (Value.type "tuple") (Option.none) (Data.seq (List.toArray [(Value.type "Exception")]) (0 : Nat)) (List.toArray []))) (
List.cons ((nat_lit 44), (Obj.mk (Value.type "tuple") (Option.none) (Data.seq (List.toArray [(Value.int (0 : Int) (231 : Nat)), (Value.int (0 : Int) (232 : Nat))]) (0 : Nat)) (List.toArray []))) (
List.cons ((nat_lit 45), (Obj.mk (Value.type "tuple") (Option.none) (Data.seq (List.toArray [(Value.ref (44 : Nat))]) (0 : Nat)) (List.toArray []))) (
List.cons ((nat_lit 46), (Obj.mk (Value.type "tuple") (Option.none) (Data.seq (List.toArray []) (0 : Nat)) (List.toArray []))) (
List.cons ((nat_lit 48), (Obj.mk (Value.type "tuple") (Option.none) (Data.seq (List.toArray [(Value.str (Str.ofString "self") (236 : Nat)), (Value.str (Str.ofString "what") (237 : Nat)), (Value.str (Str.ofString "at") (238 : Nat))]) (0 : Nat)) (List.toArray []))) (
List.cons ((nat_lit 49), (Obj.mk (Value.type "tuple") (Option.none) (Data.seq (List.toArray []) (0 : Nat)) (List.toArray []))) (
List.cons ((nat_lit 51), (Obj.mk (Value.type "code") (Option.none) (Data.fields (List.toArray [(Value.str (Str.ofString "__init__") (233 : Nat)), (Value.str (Str.ofString "LedgerError.__init__") (234 : Nat)), (Value.str (Str.ofString "/claim/cut.py") (235 : Nat)), (Value.int (24 : Int) (0 : Nat)), (Value.int (3 : Int) (0 : Nat)), (Value.int (0 : Int) (0 : Nat)), (Value.int (0 : Int) (0 : Nat)), (Value.int (3 : Int) (0 : Nat)), (Value.ref (46 : Nat)), (Value.bool Bool.true), (Value.int (181 : Int) (0 : Nat)), (Value.ref (47 : Nat)), Value.none, (Value.ref (48 : Nat)), (Value.ref (49 : Nat)), (Value.ref (50 : Nat)), (Value.int (239 : Int) (0 : Nat)), (Value.int (24 : Int) (0 : Nat)), (Value.str (Str.ofString "/claim/cut.py") (240 : Nat))])) (List.toArray []))) (
List.cons ((nat_lit 52), (Obj.mk (Value.type "function") (Option.none) (Data.func (FuncData.mk (Str.ofString "__init__") (Str.ofString "LedgerError.__init__") aP52 (FuncBody.stmts aB52) aS52 (3 : Nat) [] (Value.ref (45 : Nat)) Value.none Value.none (Value.str (Str.ofString "ledgerspeak.errors") (217 : Nat)) (Option.none) (Value.ref (51 : Nat)) Value.none (0 : Nat))) (List.toArray []))) (
List.cons ((nat_lit 53), (Obj.mk (Value.type "tuple") (Option.none) (Data.seq (List.toArray []) (0 : Nat)) (List.toArray []))) (
List.cons ((nat_lit 55), (Obj.mk (Value.type "tuple") (Option.none) (Data.seq (List.toArray [(Value.str (Str.ofString "self") (245 : Nat))]) (0 : Nat)) (List.toArray []))) (
List.cons ((nat_lit 56), (Obj.mk (Value.type "tuple") (Option.none) (Data.seq (List.toArray []) (0 : Nat)) (List.toArray []))) (
List.cons ((nat_lit 58), (Obj.mk (Value.type "code") (Option.none) (Data.fields (List.toArray [(Value.str (Str.ofString "told") (242 : Nat)), (Value.str (Str.ofString "LedgerError.told") (243 : Nat)), (Value.str (Str.ofString "/claim/cut.py") (244 : Nat)), (Value.int (29 : Int) (0 : Nat)), (Value.int (1 : Int) (0 : Nat)), (Value.int (0 : Int) (0 : Nat)), (Value.int (0 : Int) (0 : Nat)), (Value.int (3 : Int) (0 : Nat)), (Value.ref (53 : Nat)), (Value.bool Bool.true), (Value.int (181 : Int) (0 : Nat)), (Value.ref (54 : Nat)), Value.none, (Value.ref (55 : Nat)), (Value.ref (56 : Nat)), (Value.ref (57 : Nat)), (Value.int (246 : Int) (0 : Nat)), (Value.int (29 : Int) (0 : Nat)), (Value.str (Str.ofString "/claim/cut.py") (247 : Nat))])) (List.toArray []))) (
List.cons ((nat_lit 59), (Obj.mk (Value.type "function") (Option.none) (Data.func (FuncData.mk (Str.ofString "told") (Str.ofString "LedgerError.told") aP59 (FuncBody.stmts aB59) aS59 (3 : Nat) [] Value.none Value.none Value.none (Value.str (Str.ofString "ledgerspeak.errors") (217 : Nat)) (Option.none) (Value.ref (58 : Nat)) Value.none (0 : Nat))) (List.toArray []))) (
List.cons ((nat_lit 60), (Obj.mk (Value.type "tuple") (Option.none) (Data.seq (List.toArray [(Value.str (Str.ofString "at") (249 : Nat)), (Value.str (Str.ofString "what") (250 : Nat))]) (0 : Nat)) (List.toArray []))) (
List.cons ((nat_lit 61), (Obj.mk (Value.type "dict") (Option.none) (Data.dict (List.toArray [(DictEntry.mk (PyData.keyHash P (Str.ofString "__module__")) (Value.str (Str.ofString "__module__") (226 : Nat)) (Value.str (Str.ofString "ledgerspeak.errors") (217 : Nat))), (DictEntry.mk (PyData.keyHash P (Str.ofString "__firstlineno__")) (Value.str (Str.ofString "__firstlineno__") (230 : Nat)) (Value.int (22 : Int) (229 : Nat))), (DictEntry.mk (PyData.keyHash P (Str.ofString "__init__")) (Value.str (Str.ofString "__init__") (241 : Nat)) (Value.ref (52 : Nat))), (DictEntry.mk (PyData.keyHash P (Str.ofString "told")) (Value.str (Str.ofString "told") (248 : Nat)) (Value.ref (59 : Nat))), (DictEntry.mk (PyData.keyHash P (Str.ofString "__static_attributes__")) (Value.str (Str.ofString "__static_attributes__") (251 : Nat)) (Value.ref (60 : Nat))), (DictEntry.mk (PyData.keyHash P (Str.ofString "__weakref__")) (Value.str (Str.ofString "__weakref__") (253 : Nat)) (Value.ref (63 : Nat))), (DictEntry.mk (PyData.keyHash P (Str.ofString "__doc__")) (Value.str (Str.ofString "__doc__") (254 : Nat)) Value.none)]) (3 : Nat)) (List.toArray []))) (
List.cons ((nat_lit 62), (Obj.mk (Value.type "type") (Option.none) (Data.cls (ClassData.mk (Str.ofString "LedgerError") [(Value.type "Exception")] [(Value.ref (62 : Nat)), (Value.type "Exception"), (Value.type "BaseException"), (Value.type "object")] (61 : Nat) (Str.ofString "LedgerError") Bool.true [] [(Value.ref (75 : Nat)), (Value.ref (87 : Nat)), (Value.ref (99 : Nat))] Bool.false (Option.none) Bool.false)) (List.toArray [(Option.some (Value.ref (37 : Nat))), (Option.none), (Option.some (Value.str (Str.ofString "LedgerError") (219 : Nat))), (Option.some (Value.str (Str.ofString "LedgerError") (227 : Nat))), (Option.some (Value.builtin "Exception.__new__")), (Option.some (Value.bool Bool.true))]))) (
List.cons ((nat_lit 63), (Obj.mk (Value.type "getset_descriptor") (Option.none) (Data.fields (List.toArray [(Value.str (Str.ofString "__weakref__") (252 : Nat)), (Value.ref (62 : Nat)), (Value.builtin "ExceptionGroup.__weakref__"), Value.none])) (List.toArray []))) (
List.cons ((nat_lit 66), (Obj.mk (Value.type "tuple") (Option.none) (Data.seq (List.toArray [(Value.ref (62 : Nat))]) (0 : Nat)) (List.toArray []))) (
List.cons ((nat_lit 73), (Obj.mk (Value.type "tuple") (Option.none) (Data.seq (List.toArray []) (0 : Nat)) (List.toArray []))) (
List.cons ((nat_lit 74), (Obj.mk (Value.type "dict") (Option.none) (Data.dict (List.toArray [(DictEntry.mk (PyData.keyHash P (Str.ofString "__module__")) (Value.str (Str.ofString "__module__") (266 : Nat)) (Value.str (Str.ofString "ledgerspeak.errors") (217 : Nat))), (DictEntry.mk (PyData.keyHash P (Str.ofString "__firstlineno__")) (Value.str (Str.ofString "__firstlineno__") (270 : Nat)) (Value.int (31 : Int) (269 : Nat))), (DictEntry.mk (PyData.keyHash P (Str.ofString "__static_attributes__")) (Value.str (Str.ofString "__static_attributes__") (271 : Nat)) (Value.ref (73 : Nat))), (DictEntry.mk (PyData.keyHash P (Str.ofString "__doc__")) (Value.str (Str.ofString "__doc__") (272 : Nat)) Value.none)]) (2 : Nat)) (List.toArray []))) (
List.cons ((nat_lit 75), (Obj.mk (Value.type "type") (Option.none) (Data.cls (ClassData.mk (Str.ofString "PictureFault") [(Value.ref (62 : Nat))] [(Value.ref (75 : Nat)), (Value.ref (62 : Nat)), (Value.type "Exception"), (Value.type "BaseException"), (Value.type "object")] (74 : Nat) (Str.ofString "PictureFault") Bool.true [] [] Bool.false (Option.none) Bool.false)) (List.toArray [(Option.some (Value.ref (66 : Nat))), (Option.none), (Option.some (Value.str (Str.ofString "PictureFault") (259 : Nat))), (Option.some (Value.str (Str.ofString "PictureFault") (267 : Nat))), (Option.some (Value.builtin "Exception.__new__")), (Option.some (Value.bool Bool.true))]))) (
List.cons ((nat_lit 78), (Obj.mk (Value.type "tuple") (Option.none) (Data.seq (List.toArray [(Value.ref (62 : Nat))]) (0 : Nat)) (List.toArray []))) (
List.cons ((nat_lit 85), (Obj.mk (Value.type "tuple") (Option.none) (Data.seq (List.toArray []) (0 : Nat)) (List.toArray []))) (
List.cons ((nat_lit 86), (Obj.mk (Value.type "dict") (Option.none) (Data.dict (List.toArray [(DictEntry.mk (PyData.keyHash P (Str.ofString "__module__")) (Value.str (Str.ofString "__module__") (282 : Nat)) (Value.str (Str.ofString "ledgerspeak.errors") (217 : Nat))), (DictEntry.mk (PyData.keyHash P (Str.ofString "__firstlineno__")) (Value.str (Str.ofString "__firstlineno__") (286 : Nat)) (Value.int (33 : Int) (285 : Nat))), (DictEntry.mk (PyData.keyHash P (Str.ofString "__static_attributes__")) (Value.str (Str.ofString "__static_attributes__") (287 : Nat)) (Value.ref (85 : Nat))), (DictEntry.mk (PyData.keyHash P (Str.ofString "__doc__")) (Value.str (Str.ofString "__doc__") (288 : Nat)) Value.none)]) (2 : Nat)) (List.toArray []))) (
List.cons ((nat_lit 87), (Obj.mk (Value.type "type") (Option.none) (Data.cls (ClassData.mk (Str.ofString "DataFault") [(Value.ref (62 : Nat))] [(Value.ref (87 : Nat)), (Value.ref (62 : Nat)), (Value.type "Exception"), (Value.type "BaseException"), (Value.type "object")] (86 : Nat) (Str.ofString "DataFault") Bool.true [] [] Bool.false (Option.none) Bool.false)) (List.toArray [(Option.some (Value.ref (78 : Nat))), (Option.none), (Option.some (Value.str (Str.ofString "DataFault") (275 : Nat))), (Option.some (Value.str (Str.ofString "DataFault") (283 : Nat))), (Option.some (Value.builtin "Exception.__new__")), (Option.some (Value.bool Bool.true))]))) (
List.cons ((nat_lit 90), (Obj.mk (Value.type "tuple") (Option.none) (Data.seq (List.toArray [(Value.ref (62 : Nat))]) (0 : Nat)) (List.toArray []))) (
List.cons ((nat_lit 97), (Obj.mk (Value.type "tuple") (Option.none) (Data.seq (List.toArray []) (0 : Nat)) (List.toArray []))) (
List.cons ((nat_lit 98), (Obj.mk (Value.type "dict") (Option.none) (Data.dict (List.toArray [(DictEntry.mk (PyData.keyHash P (Str.ofString "__module__")) (Value.str (Str.ofString "__module__") (298 : Nat)) (Value.str (Str.ofString "ledgerspeak.errors") (217 : Nat))), (DictEntry.mk (PyData.keyHash P (Str.ofString "__firstlineno__")) (Value.str (Str.ofString "__firstlineno__") (302 : Nat)) (Value.int (35 : Int) (301 : Nat))), (DictEntry.mk (PyData.keyHash P (Str.ofString "__static_attributes__")) (Value.str (Str.ofString "__static_attributes__") (303 : Nat)) (Value.ref (97 : Nat))), (DictEntry.mk (PyData.keyHash P (Str.ofString "__doc__")) (Value.str (Str.ofString "__doc__") (304 : Nat)) Value.none)]) (2 : Nat)) (List.toArray []))) (
List.cons ((nat_lit 99), (Obj.mk (Value.type "type") (Option.none) (Data.cls (ClassData.mk (Str.ofString "RunFault") [(Value.ref (62 : Nat))] [(Value.ref (99 : Nat)), (Value.ref (62 : Nat)), (Value.type "Exception"), (Value.type "BaseException"), (Value.type "object")] (98 : Nat) (Str.ofString "RunFault") Bool.true [] [] Bool.false (Option.none) Bool.false)) (List.toArray [(Option.some (Value.ref (90 : Nat))), (Option.none), (Option.some (Value.str (Str.ofString "RunFault") (291 : Nat))), (Option.some (Value.str (Str.ofString "RunFault") (299 : Nat))), (Option.some (Value.builtin "Exception.__new__")), (Option.some (Value.bool Bool.true))]))) (
List.cons ((nat_lit 109), (Obj.mk (Value.type "tuple") (Option.none) (Data.seq (List.toArray [Value.none, (Value.str (Str.ofString "display") (325 : Nat)), (Value.str (Str.ofString "trailing") (326 : Nat)), (Value.bool Bool.false), (Value.bool Bool.false), (Value.bool Bool.false)]) (0 : Nat)) (List.toArray []))) (
List.cons ((nat_lit 110), (Obj.mk (Value.type "tuple") (Option.none) (Data.seq (List.toArray []) (0 : Nat)) (List.toArray []))) (
List.cons ((nat_lit 112), (Obj.mk (Value.type "tuple") (Option.none) (Data.seq (List.toArray [(Value.str (Str.ofString "self") (330 : Nat)), (Value.str (Str.ofString "category") (331 : Nat)), (Value.str (Str.ofString "size") (332 : Nat)), (Value.str (Str.ofString "picture") (333 : Nat)), (Value.str (Str.ofString "usage") (334 : Nat)), (Value.str (Str.ofString "sign") (335 : Nat)), (Value.str (Str.ofString "is_separate") (336 : Nat)), (Value.str (Str.ofString "is_justified") (337 : Nat)), (Value.str (Str.ofString "is_blank_zero") (338 : Nat))]) (0 : Nat)) (List.toArray []))) (
List.cons ((nat_lit 113), (Obj.mk (Value.type "tuple") (Option.none) (Data.seq (List.toArray []) (0 : Nat)) (List.toArray []))) (
List.cons ((nat_lit 115), (Obj.mk (Value.type "code") (Option.none) (Data.fields (List.toArray [(Value.str (Str.ofString "__init__") (327 : Nat)), (Value.str (Str.ofString "Shape.__init__") (328 : Nat)), (Value.str (Str.ofString "/claim/cut.py") (329 : Nat)), (Value.int (42 : Int) (0 : Nat)), (Value.int (9 : Int) (0 : Nat)), (Value.int (0 : Int) (0 : Nat)), (Value.int (0 : Int) (0 : Nat)), (Value.int (3 : Int) (0 : Nat)), (Value.ref (110 : Nat)), (Value.bool Bool.true), (Value.int (181 : Int) (0 : Nat)), (Value.ref (111 : Nat)), Value.none, (Value.ref (112 : Nat)), (Value.ref (113 : Nat)), (Value.ref (114 : Nat)), (Value.int (339 : Int) (0 : Nat)), (Value.int (42 : Int) (0 : Nat)), (Value.str (Str.ofString "/claim/cut.py") (340 : Nat))])) (List.toArray []))) (
List.cons ((nat_lit 116), (Obj.mk (Value.type "function") (Option.none) (Data.func (FuncData.mk (Str.ofString "__init__") (Str.ofString "Shape.__init__") aP116 (FuncBody.stmts aB116) aS116 (3 : Nat) [] (Value.ref (109 : Nat)) Value.none Value.none (Value.str (Str.ofString "ledgerspeak.shapes") (307 : Nat)) (Option.none) (Value.ref (115 : Nat)) Value.none (0 : Nat))) (List.toArray []))) (
List.cons ((nat_lit 117), (Obj.mk (Value.type "tuple") (Option.none) (Data.seq (List.toArray []) (0 : Nat)) (List.toArray []))) (
List.cons ((nat_lit 119), (Obj.mk (Value.type "tuple") (Option.none) (Data.seq (List.toArray [(Value.str (Str.ofString "self") (345 : Nat)), (Value.str (Str.ofString "clauses") (346 : Nat)), (Value.str (Str.ofString "number") (347 : Nat)), (Value.str (Str.ofString "picture") (348 : Nat))]) (0 : Nat)) (List.toArray []))) (
List.cons ((nat_lit 120), (Obj.mk (Value.type "tuple") (Option.none) (Data.seq (List.toArray []) (0 : Nat)) (List.toArray []))) (
List.cons ((nat_lit 122), (Obj.mk (Value.type "code") (Option.none) (Data.fields (List.toArray [(Value.str (Str.ofString "told") (342 : Nat)), (Value.str (Str.ofString "Shape.told") (343 : Nat)), (Value.str (Str.ofString "/claim/cut.py") (344 : Nat)), (Value.int (59 : Int) (0 : Nat)), (Value.int (1 : Int) (0 : Nat)), (Value.int (0 : Int) (0 : Nat)), (Value.int (0 : Int) (0 : Nat)), (Value.int (3 : Int) (0 : Nat)), (Value.ref (117 : Nat)), (Value.bool Bool.true), (Value.int (181 : Int) (0 : Nat)), (Value.ref (118 : Nat)), Value.none, (Value.ref (119 : Nat)), (Value.ref (120 : Nat)), (Value.ref (121 : Nat)), (Value.int (349 : Int) (0 : Nat)), (Value.int (59 : Int) (0 : Nat)), (Value.str (Str.ofString "/claim/cut.py") (350 : Nat))])) (List.toArray []))) (
List.cons ((nat_lit 123), (Obj.mk (Value.type "function") (Option.none) (Data.func (FuncData.mk (Str.ofString "told") (Str.ofString "Shape.told") aP123 (FuncBody.stmts aB123) aS123 (3 : Nat) [] Value.none Value.none Value.none (Value.str (Str.ofString "ledgerspeak.shapes") (307 : Nat)) (Option.none) (Value.ref (122 : Nat)) Value.none (0 : Nat))) (List.toArray []))) (
List.cons ((nat_lit 124), (Obj.mk (Value.type "tuple") (Option.none) (Data.seq (List.toArray []) (0 : Nat)) (List.toArray []))) (
List.cons ((nat_lit 126), (Obj.mk (Value.type "tuple") (Option.none) (Data.seq (List.toArray [(Value.str (Str.ofString "self") (355 : Nat))]) (0 : Nat)) (List.toArray []))) (
List.cons ((nat_lit 127), (Obj.mk (Value.type "tuple") (Option.none) (Data.seq (List.toArray []) (0 : Nat)) (List.toArray []))) (
List.cons ((nat_lit 129), (Obj.mk (Value.type "code") (Option.none) (Data.fields (List.toArray [(Value.str (Str.ofString "sign_place") (352 : Nat)), (Value.str (Str.ofString "Shape.sign_place") (353 : Nat)), (Value.str (Str.ofString "/claim/cut.py") (354 : Nat)), (Value.int (65 : Int) (0 : Nat)), (Value.int (1 : Int) (0 : Nat)), (Value.int (0 : Int) (0 : Nat)), (Value.int (0 : Int) (0 : Nat)), (Value.int (3 : Int) (0 : Nat)), (Value.ref (124 : Nat)), (Value.bool Bool.true), (Value.int (181 : Int) (0 : Nat)), (Value.ref (125 : Nat)), Value.none, (Value.ref (126 : Nat)), (Value.ref (127 : Nat)), (Value.ref (128 : Nat)), (Value.int (356 : Int) (0 : Nat)), (Value.int (65 : Int) (0 : Nat)), (Value.str (Str.ofString "/claim/cut.py") (357 : Nat))])) (List.toArray []))) (
List.cons ((nat_lit 130), (Obj.mk (Value.type "function") (Option.none) (Data.func (FuncData.mk (Str.ofString "sign_place") (Str.ofString "Shape.sign_place") aP130 (FuncBody.stmts aB130) aS130 (3 : Nat) [] Value.none Value.none Value.none (Value.str (Str.ofString "ledgerspeak.shapes") (307 : Nat)) (Option.none) (Value.ref (129 : Nat)) Value.none (0 : Nat))) (List.toArray []))) (
List.cons ((nat_lit 131), (Obj.mk (Value.type "tuple") (Option.none) (Data.seq (List.toArray [(Value.str (Str.ofString "category") (359 : Nat)), (Value.str (Str.ofString "digits") (360 : Nat)), (Value.str (Str.ofString "is_blank_zero") (361 : Nat)), (Value.str (Str.ofString "is_justified") (362 : Nat)), (Value.str (Str.ofString "is_separate") (363 : Nat)), (Value.str (Str.ofString "is_signed") (364 : Nat)), (Value.str (Str.ofString "picture") (365 : Nat)), (Value.str (Str.ofString "scale") (366 : Nat)), (Value.str (Str.ofString "sign") (367 : Nat)), (Value.str (Str.ofString "size") (368 : Nat)), (Value.str (Str.ofString "usage") (369 : Nat))]) (0 : Nat)) (List.toArray []))) (
List.cons ((nat_lit 132), (Obj.mk (Value.type "dict") (Option.none) (Data.dict (List.toArray [(DictEntry.mk (PyData.keyHash P (Str.ofString "__module__")) (Value.str (Str.ofString "__module__") (320 : Nat)) (Value.str (Str.ofString "ledgerspeak.shapes") (307 : Nat))), (DictEntry.mk (PyData.keyHash P (Str.ofString "__firstlineno__")) (Value.str (Str.ofString "__firstlineno__") (324 : Nat)) (Value.int (40 : Int) (323 : Nat))), (DictEntry.mk (PyData.keyHash P (Str.ofString "__init__")) (Value.str (Str.ofString "__init__") (341 : Nat)) (Value.ref (116 : Nat))), (DictEntry.mk (PyData.keyHash P (Str.ofString "told")) (Value.str (Str.ofString "told") (351 : Nat)) (Value.ref (123 : Nat))), (DictEntry.mk (PyData.keyHash P (Str.ofString "sign_place")) (Value.str (Str.ofString "sign_place") (358 : Nat)) (Value.ref (130 : Nat))), (DictEntry.mk (PyData.keyHash P (Str.ofString "__static_attributes__")) (Value.str (Str.ofString "__static_attributes__") (370 : Nat)) (Value.ref (131 : Nat))), (DictEntry.mk (PyData.keyHash P (Str.ofString "__dict__")) (Value.str (Str.ofString "__dict__") (372 : Nat)) (Value.ref (134 : Nat))), (DictEntry.mk (PyData.keyHash P (Str.ofString "__weakref__")) (Value.str (Str.ofString "__weakref__") (374 : Nat)) (Value.ref (135 : Nat))), (DictEntry.mk (PyData.keyHash P (Str.ofString "__doc__")) (Value.str (Str.ofString "__doc__") (375 : Nat)) Value.none)]) (4 : Nat)) (List.toArray []))) (
List.cons ((nat_lit 133), (Obj.mk (Value.type "type") (Option.none) (Data.cls (ClassData.mk (Str.ofString "Shape") [(Value.type "object")] [(Value.ref (133 : Nat)), (Value.type "object")] (132 : Nat) (Str.ofString "Shape") Bool.true [] [] Bool.false (Option.none) Bool.false)) (List.toArray [(Option.none), (Option.none), (Option.some (Value.str (Str.ofString "Shape") (313 : Nat))), (Option.some (Value.str (Str.ofString "Shape") (321 : Nat))), (Option.some (Value.builtin "object.__new__")), (Option.some (Value.bool Bool.true))]))) (
List.cons ((nat_lit 134), (Obj.mk (Value.type "getset_descriptor") (Option.none) (Data.fields (List.toArray [(Value.str (Str.ofString "__dict__") (371 : Nat)), (Value.ref (133 : Nat)), (Value.builtin "function.__dict__"), (Value.builtin "function.__dict__#set")])) (List.toArray []))) (
List.cons ((nat_lit 135), (Obj.mk (Value.type "getset_descriptor") (Option.none) (Data.fields (List.toArray [(Value.str (Str.ofString "__weakref__") (373 : Nat)), (Value.ref (133 : Nat)), (Value.builtin "ExceptionGroup.__weakref__"), Value.none])) (List.toArray []))) (
List.cons ((nat_lit 138), (Obj.mk (Value.type "tuple") (Option.none) (Data.seq (List.toArray []) (0 : Nat)) (List.toArray []))) (
List.cons ((nat_lit 140), (Obj.mk (Value.type "tuple") (Option.none) (Data.seq (List.toArray [(Value.str (Str.ofString "shape") (381 : Nat))]) (0 : Nat)) (List.toArray []))) (
List.cons ((nat_lit 141), (Obj.mk (Value.type "tuple") (Option.none) (Data.seq (List.toArray []) (0 : Nat)) (List.toArray []))) (
List.cons ((nat_lit 143), (Obj.mk (Value.type "code") (Option.none) (Data.fields (List.toArray [(Value.str (Str.ofString "unit_bound") (378 : Nat)), (Value.str (Str.ofString "unit_bound") (379 : Nat)), (Value.str (Str.ofString "/claim/cut.py") (380 : Nat)), (Value.int (69 : Int) (0 : Nat)), (Value.int (1 : Int) (0 : Nat)), (Value.int (0 : Int) (0 : Nat)), (Value.int (0 : Int) (0 : Nat)), (Value.int (3 : Int) (0 : Nat)), (Value.ref (138 : Nat)), (Value.bool Bool.true), (Value.int (181 : Int) (0 : Nat)), (Value.ref (139 : Nat)), Value.none, (Value.ref (140 : Nat)), (Value.ref (141 : Nat)), (Value.ref (142 : Nat)), (Value.int (382 : Int) (0 : Nat)), (Value.int (69 : Int) (0 : Nat)), (Value.str (Str.ofString "/claim/cut.py") (383 : Nat))])) (List.toArray []))) (
List.cons ((nat_lit 144), (Obj.mk (Value.type "function") (Option.none) (Data.func (FuncData.mk (Str.ofString "unit_bound") (Str.ofString "unit_bound") aP144 (FuncBody.stmts aB144) aS144 (3 : Nat) [] Value.none Value.none Value.none (Value.str (Str.ofString "ledgerspeak.shapes") (307 : Nat)) (Option.none) (Value.ref (143 : Nat)) Value.none (0 : Nat))) (List.toArray []))) (
List.cons ((nat_lit 145), (Obj.mk (Value.type "tuple") (Option.none) (Data.seq (List.toArray []) (0 : Nat)) (List.toArray []))) (
List.cons ((nat_lit 147), (Obj.mk (Value.type "tuple") (Option.none) (Data.seq (List.toArray [(Value.str (Str.ofString "digits") (388 : Nat))]) (0 : Nat)) (List.toArray []))) (
List.cons ((nat_lit 148), (Obj.mk (Value.type "tuple") (Option.none) (Data.seq (List.toArray []) (0 : Nat)) (List.toArray []))) (
List.cons ((nat_lit 150), (Obj.mk (Value.type "code") (Option.none) (Data.fields (List.toArray [(Value.str (Str.ofString "binary_width") (385 : Nat)), (Value.str (Str.ofString "binary_width") (386 : Nat)), (Value.str (Str.ofString "/claim/cut.py") (387 : Nat)), (Value.int (71 : Int) (0 : Nat)), (Value.int (1 : Int) (0 : Nat)), (Value.int (0 : Int) (0 : Nat)), (Value.int (0 : Int) (0 : Nat)), (Value.int (3 : Int) (0 : Nat)), (Value.ref (145 : Nat)), (Value.bool Bool.true), (Value.int (181 : Int) (0 : Nat)), (Value.ref (146 : Nat)), Value.none, (Value.ref (147 : Nat)), (Value.ref (148 : Nat)), (Value.ref (149 : Nat)), (Value.int (389 : Int) (0 : Nat)), (Value.int (71 : Int) (0 : Nat)), (Value.str (Str.ofString "/claim/cut.py") (390 : Nat))])) (List.toArray []))) (
List.cons ((nat_lit 151), (Obj.mk (Value.type "function") (Option.none) (Data.func (FuncData.mk (Str.ofString "binary_width") (Str.ofString "binary_width") aP151 (FuncBody.stmts aB151) aS151 (3 : Nat) [] Value.none Value.none Value.none (Value.str (Str.ofString "ledgerspeak.shapes") (307 : Nat)) (Option.none) (Value.ref (150 : Nat)) Value.none (0 : Nat))) (List.toArray []))) (
List.cons ((nat_lit 152), (Obj.mk (Value.type "tuple") (Option.none) (Data.seq (List.toArray []) (0 : Nat)) (List.toArray []))) (
List.cons ((nat_lit 154), (Obj.mk (Value.type "tuple") (Option.none) (Data.seq (List.toArray [(Value.str (Str.ofString "digits") (395 : Nat))]) (0 : Nat)) (List.toArray []))) (
List.cons ((nat_lit 155), (Obj.mk (Value.type "tuple") (Option.none) (Data.seq (List.toArray []) (0 : Nat)) (List.toArray []))) (
List.cons ((nat_lit 157), (Obj.mk (Value.type "code") (Option.none) (Data.fields (List.toArray [(Value.str (Str.ofString "packed_width") (392 : Nat)), (Value.str (Str.ofString "packed_width") (393 : Nat)), (Value.str (Str.ofString "/claim/cut.py") (394 : Nat)), (Value.int (77 : Int) (0 : Nat)), (Value.int (1 : Int) (0 : Nat)), (Value.int (0 : Int) (0 : Nat)), (Value.int (0 : Int) (0 : Nat)), (Value.int (3 : Int) (0 : Nat)), (Value.ref (152 : Nat)), (Value.bool Bool.true), (Value.int (181 : Int) (0 : Nat)), (Value.ref (153 : Nat)), Value.none, (Value.ref (154 : Nat)), (Value.ref (155 : Nat)), (Value.ref (156 : Nat)), (Value.int (396 : Int) (0 : Nat)), (Value.int (77 : Int) (0 : Nat)), (Value.str (Str.ofString "/claim/cut.py") (397 : Nat))])) (List.toArray []))) (
List.cons ((nat_lit 158), (Obj.mk (Value.type "function") (Option.none) (Data.func (FuncData.mk (Str.ofString "packed_width") (Str.ofString "packed_width") aP158 (FuncBody.stmts aB158) aS158 (3 : Nat) [] Value.none Value.none Value.none (Value.str (Str.ofString "ledgerspeak.shapes") (307 : Nat)) (Option.none) (Value.ref (157 : Nat)) Value.none (0 : Nat))) (List.toArray []))) (
List.cons ((nat_lit 159), (Obj.mk (Value.type "tuple") (Option.none) (Data.seq (List.toArray []) (0 : Nat)) (List.toArray []))) (
List.cons ((nat_lit 161), (Obj.mk (Value.type "tuple") (Option.none) (Data.seq (List.toArray [(Value.str (Str.ofString "picture") (402 : Nat)), (Value.str (Str.ofString "usage") (403 : Nat)), (Value.str (Str.ofString "is_separate") (404 : Nat))]) (0 : Nat)) (List.toArray []))) (
List.cons ((nat_lit 162), (Obj.mk (Value.type "tuple") (Option.none) (Data.seq (List.toArray []) (0 : Nat)) (List.toArray []))) (
List.cons ((nat_lit 164), (Obj.mk (Value.type "code") (Option.none) (Data.fields (List.toArray [(Value.str (Str.ofString "size_for") (399 : Nat)), (Value.str (Str.ofString "size_for") (400 : Nat)), (Value.str (Str.ofString "/claim/cut.py") (401 : Nat)), (Value.int (81 : Int) (0 : Nat)), (Value.int (3 : Int) (0 : Nat)), (Value.int (0 : Int) (0 : Nat)), (Value.int (0 : Int) (0 : Nat)), (Value.int (3 : Int) (0 : Nat)), (Value.ref (159 : Nat)), (Value.bool Bool.true), (Value.int (181 : Int) (0 : Nat)), (Value.ref (160 : Nat)), Value.none, (Value.ref (161 : Nat)), (Value.ref (162 : Nat)), (Value.ref (163 : Nat)), (Value.int (405 : Int) (0 : Nat)), (Value.int (81 : Int) (0 : Nat)), (Value.str (Str.ofString "/claim/cut.py") (406 : Nat))])) (List.toArray []))) (
List.cons ((nat_lit 165), (Obj.mk (Value.type "function") (Option.none) (Data.func (FuncData.mk (Str.ofString "size_for") (Str.ofString "size_for") aP165 (FuncBody.stmts aB165) aS165 (3 : Nat) [] Value.none Value.none Value.none (Value.str (Str.ofString "ledgerspeak.shapes") (307 : Nat)) (Option.none) (Value.ref (164 : Nat)) Value.none (0 : Nat))) (List.toArray []))) (
List.cons ((nat_lit 166), (Obj.mk (Value.type "tuple") (Option.none) (Data.seq (List.toArray []) (0 : Nat)) (List.toArray []))) (
List.cons ((nat_lit 168), (Obj.mk (Value.type "tuple") (Option.none) (Data.seq (List.toArray [(Value.str (Str.ofString "picture") (411 : Nat)), (Value.str (Str.ofString "usage") (412 : Nat))]) (0 : Nat)) (List.toArray []))) (
List.cons ((nat_lit 169), (Obj.mk (Value.type "tuple") (Option.none) (Data.seq (List.toArray []) (0 : Nat)) (List.toArray []))) (
List.cons ((nat_lit 171), (Obj.mk (Value.type "code") (Option.none) (Data.fields (List.toArray [(Value.str (Str.ofString "check_usage") (408 : Nat)), (Value.str (Str.ofString "check_usage") (409 : Nat)), (Value.str (Str.ofString "/claim/cut.py") (410 : Nat)), (Value.int (87 : Int) (0 : Nat)), (Value.int (2 : Int) (0 : Nat)), (Value.int (0 : Int) (0 : Nat)), (Value.int (0 : Int) (0 : Nat)), (Value.int (3 : Int) (0 : Nat)), (Value.ref (166 : Nat)), (Value.bool Bool.true), (Value.int (181 : Int) (0 : Nat)), (Value.ref (167 : Nat)), Value.none, (Value.ref (168 : Nat)), (Value.ref (169 : Nat)), (Value.ref (170 : Nat)), (Value.int (413 : Int) (0 : Nat)), (Value.int (87 : Int) (0 : Nat)), (Value.str (Str.ofString "/claim/cut.py") (414 : Nat))])) (List.toArray []))) (
List.cons ((nat_lit 172), (Obj.mk (Value.type "function") (Option.none) (Data.func (FuncData.mk (Str.ofString "check_usage") (Str.ofString "check_usage") aP172 (FuncBody.stmts aB172) aS172 (3 : Nat) [] Value.none Value.none Value.none (Value.str (Str.ofString "ledgerspeak.shapes") (307 : Nat)) (Option.none) (Value.ref (171 : Nat)) Value.none (0 : Nat))) (List.toArray []))) (
List.cons ((nat_lit 173), (Obj.mk (Value.type "tuple") (Option.none) (Data.seq (List.toArray []) (0 : Nat)) (List.toArray []))) (
List.cons ((nat_lit 175), (Obj.mk (Value.type "tuple") (Option.none) (Data.seq (List.toArray [(Value.str (Str.ofString "picture") (419 : Nat)), (Value.str (Str.ofString "usage") (420 : Nat)), (Value.str (Str.ofString "sign") (421 : Nat)), (Value.str (Str.ofString "is_separate") (422 : Nat))]) (0 : Nat)) (List.toArray []))) (
List.cons ((nat_lit 176), (Obj.mk (Value.type "tuple") (Option.none) (Data.seq (List.toArray []) (0 : Nat)) (List.toArray []))) (
List.cons ((nat_lit 178), (Obj.mk (Value.type "code") (Option.none) (Data.fields (List.toArray [(Value.str (Str.ofString "check_sign") (416 : Nat)), (Value.str (Str.ofString "check_sign") (417 : Nat)), (Value.str (Str.ofString "/claim/cut.py") (418 : Nat)), (Value.int (94 : Int) (0 : Nat)), (Value.int (4 : Int) (0 : Nat)), (Value.int (0 : Int) (0 : Nat)), (Value.int (0 : Int) (0 : Nat)), (Value.int (3 : Int) (0 : Nat)), (Value.ref (173 : Nat)), (Value.bool Bool.true), (Value.int (181 : Int) (0 : Nat)), (Value.ref (174 : Nat)), Value.none, (Value.ref (175 : Nat)), (Value.ref (176 : Nat)), (Value.ref (177 : Nat)), (Value.int (423 : Int) (0 : Nat)), (Value.int (94 : Int) (0 : Nat)), (Value.str (Str.ofString "/claim/cut.py") (424 : Nat))])) (List.toArray []))) (
List.cons ((nat_lit 179), (Obj.mk (Value.type "function") (Option.none) (Data.func (FuncData.mk (Str.ofString "check_sign") (Str.ofString "check_sign") aP179 (FuncBody.stmts aB179) aS179 (3 : Nat) [] Value.none Value.none Value.none (Value.str (Str.ofString "ledgerspeak.shapes") (307 : Nat)) (Option.none) (Value.ref (178 : Nat)) Value.none (0 : Nat))) (List.toArray []))) (
List.cons ((nat_lit 180), (Obj.mk (Value.type "tuple") (Option.none) (Data.seq (List.toArray []) (0 : Nat)) (List.toArray []))) (
List.cons ((nat_lit 183), (Obj.mk (Value.type "code") (Option.none) (Data.fields (List.toArray [(Value.str (Str.ofString "check_clauses") (426 : Nat)), (Value.str (Str.ofString "check_clauses") (427 : Nat)), (Value.str (Str.ofString "/claim/cut.py") (428 : Nat)), (Value.int (101 : Int) (0 : Nat)), (Value.int (3 : Int) (0 : Nat)), (Value.int (0 : Int) (0 : Nat)), (Value.int (0 : Int) (0 : Nat)), (Value.int (3 : Int) (0 : Nat)), (Value.ref (180 : Nat)), (Value.bool Bool.true), (Value.int (181 : Int) (0 : Nat)), (Value.ref (181 : Nat)), Value.none, Value.none, Value.none, (Value.ref (182 : Nat)), (Value.int (429 : Int) (0 : Nat)), (Value.int (101 : Int) (0 : Nat)), (Value.str (Str.ofString "/claim/cut.py") (430 : Nat))])) (List.toArray []))) (
List.cons ((nat_lit 184), (Obj.mk (Value.type "function") (Option.none) (Data.func (FuncData.mk (Str.ofString "check_clauses") (Str.ofString "check_clauses") aP184 (FuncBody.stmts aB184) aS184 (3 : Nat) [] Value.none Value.none Value.none (Value.str (Str.ofString "ledgerspeak.shapes") (307 : Nat)) (Option.none) (Value.ref (183 : Nat)) Value.none (0 : Nat))) (List.toArray []))) (
List.cons ((nat_lit 185), (Obj.mk (Value.type "tuple") (Option.none) (Data.seq (List.toArray [(Value.str (Str.ofString "display") (432 : Nat)), (Value.str (Str.ofString "trailing") (433 : Nat)), (Value.bool Bool.false), (Value.bool Bool.false), (Value.bool Bool.false)]) (0 : Nat)) (List.toArray []))) (
List.cons ((nat_lit 186), (Obj.mk (Value.type "tuple") (Option.none) (Data.seq (List.toArray []) (0 : Nat)) (List.toArray []))) (
List.cons ((nat_lit 188), (Obj.mk (Value.type "tuple") (Option.none) (Data.seq (List.toArray [(Value.str (Str.ofString "picture") (437 : Nat)), (Value.str (Str.ofString "usage") (438 : Nat)), (Value.str (Str.ofString "sign") (439 : Nat)), (Value.str (Str.ofString "is_separate") (440 : Nat)), (Value.str (Str.ofString "is_justified") (441 : Nat)), (Value.str (Str.ofString "is_blank_zero") (442 : Nat)), (Value.str (Str.ofString "size") (443 : Nat))]) (0 : Nat)) (List.toArray []))) (
List.cons ((nat_lit 189), (Obj.mk (Value.type "tuple") (Option.none) (Data.seq (List.toArray []) (0 : Nat)) (List.toArray []))) (
List.cons ((nat_lit 191), (Obj.mk (Value.type "code") (Option.none) (Data.fields (List.toArray [(Value.str (Str.ofString "shape_of") (434 : Nat)), (Value.str (Str.ofString "shape_of") (435 : Nat)), (Value.str (Str.ofString "/claim/cut.py") (436 : Nat)), (Value.int (108 : Int) (0 : Nat)), (Value.int (6 : Int) (0 : Nat)), (Value.int (0 : Int) (0 : Nat)), (Value.int (0 : Int) (0 : Nat)), (Value.int (3 : Int) (0 : Nat)), (Value.ref (186 : Nat)), (Value.bool Bool.true), (Value.int (181 : Int) (0 : Nat)), (Value.ref (187 : Nat)), Value.none, (Value.ref (188 : Nat)), (Value.ref (189 : Nat)), (Value.ref (190 : Nat)), (Value.int (444 : Int) (0 : Nat)), (Value.int (108 : Int) (0 : Nat)), (Value.str (Str.ofString "/claim/cut.py") (445 : Nat))])) (List.toArray []))) (
List.cons ((nat_lit 192), (Obj.mk (Value.type "function") (Option.none) (Data.func (FuncData.mk (Str.ofString "shape_of") (Str.ofString "shape_of") aP192 (FuncBody.stmts aB192) aS192 (3 : Nat) [] (Value.ref (185 : Nat)) Value.none Value.none (Value.str (Str.ofString "ledgerspeak.shapes") (307 : Nat)) (Option.none) (Value.ref (191 : Nat)) Value.none (0 : Nat))) (List.toArray []))) (
List.cons ((nat_lit 193), (Obj.mk (Value.type "tuple") (Option.none) (Data.seq (List.toArray []) (0 : Nat)) (List.toArray []))) (
List.cons ((nat_lit 195), (Obj.mk (Value.type "tuple") (Option.none) (Data.seq (List.toArray [(Value.str (Str.ofString "shape") (468 : Nat)), (Value.str (Str.ofString "units") (469 : Nat)), (Value.str (Str.ofString "left") (470 : Nat))]) (0 : Nat)) (List.toArray []))) (
List.cons ((nat_lit 196), (Obj.mk (Value.type "tuple") (Option.none) (Data.seq (List.toArray []) (0 : Nat)) (List.toArray []))) (
List.cons ((nat_lit 198), (Obj.mk (Value.type "code") (Option.none) (Data.fields (List.toArray [(Value.str (Str.ofString "kept_units") (465 : Nat)), (Value.str (Str.ofString "kept_units") (466 : Nat)), (Value.str (Str.ofString "/claim/cut.py") (467 : Nat)), (Value.int (123 : Int) (0 : Nat)), (Value.int (2 : Int) (0 : Nat)), (Value.int (0 : Int) (0 : Nat)), (Value.int (0 : Int) (0 : Nat)), (Value.int (3 : Int) (0 : Nat)), (Value.ref (193 : Nat)), (Value.bool Bool.true), (Value.int (181 : Int) (0 : Nat)), (Value.ref (194 : Nat)), Value.none, (Value.ref (195 : Nat)), (Value.ref (196 : Nat)), (Value.ref (197 : Nat)), (Value.int (471 : Int) (0 : Nat)), (Value.int (123 : Int) (0 : Nat)), (Value.str (Str.ofString "/claim/cut.py") (472 : Nat))])) (List.toArray []))) (
List.cons ((nat_lit 199), (Obj.mk (Value.type "function") (Option.none) (Data.func (FuncData.mk (Str.ofString "kept_units") (Str.ofString "kept_units") aP199 (FuncBody.stmts aB199) aS199 (3 : Nat) [] Value.none Value.none Value.none (Value.str (Str.ofString "ledgerspeak.usages") (447 : Nat)) (Option.none) (Value.ref (198 : Nat)) Value.none (0 : Nat))) (List.toArray []))) (
List.cons ((nat_lit 200), (Obj.mk (Value.type "tuple") (Option.none) (Data.seq (List.toArray []) (0 : Nat)) (List.toArray []))) (
List.cons ((nat_lit 202), (Obj.mk (Value.type "tuple") (Option.none) (Data.seq (List.toArray [(Value.str (Str.ofString "number") (477 : Nat)), (Value.str (Str.ofString "count") (478 : Nat)), (Value.str (Str.ofString "found") (479 : Nat)), (Value.str (Str.ofString "rest") (480 : Nat)), (Value.str (Str.ofString "turn") (481 : Nat))]) (0 : Nat)) (List.toArray []))) (
List.cons ((nat_lit 203), (Obj.mk (Value.type "tuple") (Option.none) (Data.seq (List.toArray []) (0 : Nat)) (List.toArray []))) (
List.cons ((nat_lit 205), (Obj.mk (Value.type "code") (Option.none) (Data.fields (List.toArray [(Value.str (Str.ofString "figures_for") (474 : Nat)), (Value.str (Str.ofString "figures_for") (475 : Nat)), (Value.str (Str.ofString "/claim/cut.py") (476 : Nat)), (Value.int (126 : Int) (0 : Nat)), (Value.int (2 : Int) (0 : Nat)), (Value.int (0 : Int) (0 : Nat)), (Value.int (0 : Int) (0 : Nat)), (Value.int (3 : Int) (0 : Nat)), (Value.ref (200 : Nat)), (Value.bool Bool.true), (Value.int (181 : Int) (0 : Nat)), (Value.ref (201 : Nat)), Value.none, (Value.ref (202 : Nat)), (Value.ref (203 : Nat)), (Value.ref (204 : Nat)), (Value.int (482 : Int) (0 : Nat)), (Value.int (126 : Int) (0 : Nat)), (Value.str (Str.ofString "/claim/cut.py") (483 : Nat))])) (List.toArray []))) (
List.cons ((nat_lit 206), (Obj.mk (Value.type "function") (Option.none) (Data.func (FuncData.mk (Str.ofString "figures_for") (Str.ofString "figures_for") aP206 (FuncBody.stmts aB206) aS206 (3 : Nat) [] Value.none Value.none Value.none (Value.str (Str.ofString "ledgerspeak.usages") (447 : Nat)) (Option.none) (Value.ref (205 : Nat)) Value.none (0 : Nat))) (List.toArray []))) (
List.cons ((nat_lit 207), (Obj.mk (Value.type "tuple") (Option.none) (Data.seq (List.toArray []) (0 : Nat)) (List.toArray []))) (
List.cons ((nat_lit 210), (Obj.mk (Value.type "code") (Option.none) (Data.fields (List.toArray [(Value.str (Str.ofString "display_octets") (485 : Nat)), (Value.str (Str.ofString "display_octets") (486 : Nat)), (Value.str (Str.ofString "/claim/cut.py") (487 : Nat)), (Value.int (132 : Int) (0 : Nat)), (Value.int (2 : Int) (0 : Nat)), (Value.int (0 : Int) (0 : Nat)), (Value.int (0 : Int) (0 : Nat)), (Value.int (3 : Int) (0 : Nat)), (Value.ref (207 : Nat)), (Value.bool Bool.true), (Value.int (181 : Int) (0 : Nat)), (Value.ref (208 : Nat)), Value.none, Value.none, Value.none, (Value.ref (209 : Nat)), (Value.int (488 : Int) (0 : Nat)), (Value.int (132 : Int) (0 : Nat)), (Value.str (Str.ofString "/claim/cut.py") (489 : Nat))])) (List.toArray []))) (
List.cons ((nat_lit 211), (Obj.mk (Value.type "function") (Option.none) (Data.func (FuncData.mk (Str.ofString "display_octets") (Str.ofString "display_octets") aP211 (FuncBody.stmts aB211) aS211 (3 : Nat) [] Value.none Value.none Value.none (Value.str (Str.ofString "ledgerspeak.usages") (447 : Nat)) (Option.none) (Value.ref (210 : Nat)) Value.none (0 : Nat))) (List.toArray []))) (
List.cons ((nat_lit 212), (Obj.mk (Value.type "tuple") (Option.none) (Data.seq (List.toArray []) (0 : Nat)) (List.toArray []))) (
List.cons ((nat_lit 215), (Obj.mk (Value.type "code") (Option.none) (Data.fields (List.toArray [(Value.str (Str.ofString "packed_octets") (491 : Nat)), (Value.str (Str.ofString "packed_octets") (492 : Nat)), (Value.str (Str.ofString "/claim/cut.py") (493 : Nat)), (Value.int (143 : Int) (0 : Nat)), (Value.int (2 : Int) (0 : Nat)), (Value.int (0 : Int) (0 : Nat)), (Value.int (0 : Int) (0 : Nat)), (Value.int (3 : Int) (0 : Nat)), (Value.ref (212 : Nat)), (Value.bool Bool.true), (Value.int (181 : Int) (0 : Nat)), (Value.ref (213 : Nat)), Value.none, Value.none, Value.none, (Value.ref (214 : Nat)), (Value.int (494 : Int) (0 : Nat)), (Value.int (143 : Int) (0 : Nat)), (Value.str (Str.ofString "/claim/cut.py") (495 : Nat))])) (List.toArray []))) (
List.cons ((nat_lit 216), (Obj.mk (Value.type "function") (Option.none) (Data.func (FuncData.mk (Str.ofString "packed_octets") (Str.ofString "packed_octets") aP216 (FuncBody.stmts aB216) aS216 (3 : Nat) [] Value.none Value.none Value.none (Value.str (Str.ofString "ledgerspeak.usages") (447 : Nat)) (Option.none) (Value.ref (215 : Nat)) Value.none (0 : Nat))) (List.toArray []))) (
List.cons ((nat_lit 217), (Obj.mk (Value.type "tuple") (Option.none) (Data.seq (List.toArray []) (0 : Nat)) (List.toArray []))) (
List.cons ((nat_lit 219), (Obj.mk (Value.type "tuple") (Option.none) (Data.seq (List.toArray [(Value.str (Str.ofString "shape") (500 : Nat)), (Value.str (Str.ofString "units") (501 : Nat)), (Value.str (Str.ofString "rest") (502 : Nat)), (Value.str (Str.ofString "found") (503 : Nat)), (Value.str (Str.ofString "turn") (504 : Nat))]) (0 : Nat)) (List.toArray []))) (
List.cons ((nat_lit 220), (Obj.mk (Value.type "tuple") (Option.none) (Data.seq (List.toArray []) (0 : Nat)) (List.toArray []))) (
List.cons ((nat_lit 222), (Obj.mk (Value.type "code") (Option.none) (Data.fields (List.toArray [(Value.str (Str.ofString "binary_octets") (497 : Nat)), (Value.str (Str.ofString "binary_octets") (498 : Nat)), (Value.str (Str.ofString "/claim/cut.py") (499 : Nat)), (Value.int (149 : Int) (0 : Nat)), (Value.int (2 : Int) (0 : Nat)), (Value.int (0 : Int) (0 : Nat)), (Value.int (0 : Int) (0 : Nat)), (Value.int (3 : Int) (0 : Nat)), (Value.ref (217 : Nat)), (Value.bool Bool.true), (Value.int (181 : Int) (0 : Nat)), (Value.ref (218 : Nat)), Value.none, (Value.ref (219 : Nat)), (Value.ref (220 : Nat)), (Value.ref (221 : Nat)), (Value.int (505 : Int) (0 : Nat)), (Value.int (149 : Int) (0 : Nat)), (Value.str (Str.ofString "/claim/cut.py") (506 : Nat))])) (List.toArray []))) (
List.cons ((nat_lit 223), (Obj.mk (Value.type "function") (Option.none) (Data.func (FuncData.mk (Str.ofString "binary_octets") (Str.ofString "binary_octets") aP223 (FuncBody.stmts aB223) aS223 (3 : Nat) [] Value.none Value.none Value.none (Value.str (Str.ofString "ledgerspeak.usages") (447 : Nat)) (Option.none) (Value.ref (222 : Nat)) Value.none (0 : Nat))) (List.toArray []))) (
List.cons ((nat_lit 224), (Obj.mk (Value.type "tuple") (Option.none) (Data.seq (List.toArray []) (0 : Nat)) (List.toArray []))) (
List.cons ((nat_lit 226), (Obj.mk (Value.type "tuple") (Option.none) (Data.seq (List.toArray [(Value.str (Str.ofString "shape") (511 : Nat)), (Value.str (Str.ofString "units") (512 : Nat)), (Value.str (Str.ofString "left") (513 : Nat))]) (0 : Nat)) (List.toArray []))) (
List.cons ((nat_lit 227), (Obj.mk (Value.type "tuple") (Option.none) (Data.seq (List.toArray []) (0 : Nat)) (List.toArray []))) (
List.cons ((nat_lit 229), (Obj.mk (Value.type "code") (Option.none) (Data.fields (List.toArray [(Value.str (Str.ofString "octets_for") (508 : Nat)), (Value.str (Str.ofString "octets_for") (509 : Nat)), (Value.str (Str.ofString "/claim/cut.py") (510 : Nat)), (Value.int (155 : Int) (0 : Nat)), (Value.int (2 : Int) (0 : Nat)), (Value.int (0 : Int) (0 : Nat)), (Value.int (0 : Int) (0 : Nat)), (Value.int (3 : Int) (0 : Nat)), (Value.ref (224 : Nat)), (Value.bool Bool.true), (Value.int (181 : Int) (0 : Nat)), (Value.ref (225 : Nat)), Value.none, (Value.ref (226 : Nat)), (Value.ref (227 : Nat)), (Value.ref (228 : Nat)), (Value.int (514 : Int) (0 : Nat)), (Value.int (155 : Int) (0 : Nat)), (Value.str (Str.ofString "/claim/cut.py") (515 : Nat))])) (List.toArray []))) (
List.cons ((nat_lit 230), (Obj.mk (Value.type "function") (Option.none) (Data.func (FuncData.mk (Str.ofString "octets_for") (Str.ofString "octets_for") aP230 (FuncBody.stmts aB230) aS230 (3 : Nat) [] Value.none Value.none Value.none (Value.str (Str.ofString "ledgerspeak.usages") (447 : Nat)) (Option.none) (Value.ref (229 : Nat)) Value.none (0 : Nat))) (List.toArray []))) (
List.cons ((nat_lit 231), (Obj.mk (Value.type "tuple") (Option.none) (Data.seq (List.toArray []) (0 : Nat)) (List.toArray []))) (
List.cons ((nat_lit 233), (Obj.mk (Value.type "tuple") (Option.none) (Data.seq (List.toArray [(Value.str (Str.ofString "figures") (520 : Nat)), (Value.str (Str.ofString "found") (521 : Nat)), (Value.str (Str.ofString "at") (522 : Nat)), (Value.str (Str.ofString "figure") (523 : Nat))]) (0 : Nat)) (List.toArray []))) (
List.cons ((nat_lit 234), (Obj.mk (Value.type "tuple") (Option.none) (Data.seq (List.toArray []) (0 : Nat)) (List.toArray []))) (
List.cons ((nat_lit 236), (Obj.mk (Value.type "code") (Option.none) (Data.fields (List.toArray [(Value.str (Str.ofString "joined_figures") (517 : Nat)), (Value.str (Str.ofString "joined_figures") (518 : Nat)), (Value.str (Str.ofString "/claim/cut.py") (519 : Nat)), (Value.int (160 : Int) (0 : Nat)), (Value.int (1 : Int) (0 : Nat)), (Value.int (0 : Int) (0 : Nat)), (Value.int (0 : Int) (0 : Nat)), (Value.int (3 : Int) (0 : Nat)), (Value.ref (231 : Nat)), (Value.bool Bool.true), (Value.int (181 : Int) (0 : Nat)), (Value.ref (232 : Nat)), Value.none, (Value.ref (233 : Nat)), (Value.ref (234 : Nat)), (Value.ref (235 : Nat)), (Value.int (524 : Int) (0 : Nat)), (Value.int (160 : Int) (0 : Nat)), (Value.str (Str.ofString "/claim/cut.py") (525 : Nat))])) (List.toArray []))) (
List.cons ((nat_lit 237), (Obj.mk (Value.type "function") (Option.none) (Data.func (FuncData.mk (Str.ofString "joined_figures") (Str.ofString "joined_figures") aP237 (FuncBody.stmts aB237) aS237 (3 : Nat) [] Value.none Value.none Value.none (Value.str (Str.ofString "ledgerspeak.usages") (447 : Nat)) (Option.none) (Value.ref (236 : Nat)) Value.none (0 : Nat))) (List.toArray []))) (
List.cons ((nat_lit 238), (Obj.mk (Value.type "tuple") (Option.none) (Data.seq (List.toArray []) (0 : Nat)) (List.toArray []))) (
List.cons ((nat_lit 240), (Obj.mk (Value.type "tuple") (Option.none) (Data.seq (List.toArray [(Value.str (Str.ofString "code") (530 : Nat))]) (0 : Nat)) (List.toArray []))) (
List.cons ((nat_lit 241), (Obj.mk (Value.type "tuple") (Option.none) (Data.seq (List.toArray []) (0 : Nat)) (List.toArray []))) (
List.cons ((nat_lit 243), (Obj.mk (Value.type "code") (Option.none) (Data.fields (List.toArray [(Value.str (Str.ofString "signed_figure") (527 : Nat)), (Value.str (Str.ofString "signed_figure") (528 : Nat)), (Value.str (Str.ofString "/claim/cut.py") (529 : Nat)), (Value.int (167 : Int) (0 : Nat)), (Value.int (1 : Int) (0 : Nat)), (Value.int (0 : Int) (0 : Nat)), (Value.int (0 : Int) (0 : Nat)), (Value.int (3 : Int) (0 : Nat)), (Value.ref (238 : Nat)), (Value.bool Bool.true), (Value.int (181 : Int) (0 : Nat)), (Value.ref (239 : Nat)), Value.none, (Value.ref (240 : Nat)), (Value.ref (241 : Nat)), (Value.ref (242 : Nat)), (Value.int (531 : Int) (0 : Nat)), (Value.int (167 : Int) (0 : Nat)), (Value.str (Str.ofString "/claim/cut.py") (532 : Nat))])) (List.toArray []))) (
List.cons ((nat_lit 244), (Obj.mk (Value.type "function") (Option.none) (Data.func (FuncData.mk (Str.ofString "signed_figure") (Str.ofString "signed_figure") aP244 (FuncBody.stmts aB244) aS244 (3 : Nat) [] Value.none Value.none Value.none (Value.str (Str.ofString "ledgerspeak.usages") (447 : Nat)) (Option.none) (Value.ref (243 : Nat)) Value.none (0 : Nat))) (List.toArray []))) (
List.cons ((nat_lit 245), (Obj.mk (Value.type "tuple") (Option.none) (Data.seq (List.toArray []) (0 : Nat)) (List.toArray []))) (
List.cons ((nat_lit 248), (Obj.mk (Value.type "code") (Option.none) (Data.fields (List.toArray [(Value.str (Str.ofString "display_units") (534 : Nat)), (Value.str (Str.ofString "display_units") (535 : Nat)), (Value.str (Str.ofString "/claim/cut.py") (536 : Nat)), (Value.int (173 : Int) (0 : Nat)), (Value.int (2 : Int) (0 : Nat)), (Value.int (0 : Int) (0 : Nat)), (Value.int (0 : Int) (0 : Nat)), (Value.int (3 : Int) (0 : Nat)), (Value.ref (245 : Nat)), (Value.bool Bool.true), (Value.int (181 : Int) (0 : Nat)), (Value.ref (246 : Nat)), Value.none, Value.none, Value.none, (Value.ref (247 : Nat)), (Value.int (537 : Int) (0 : Nat)), (Value.int (173 : Int) (0 : Nat)), (Value.str (Str.ofString "/claim/cut.py") (538 : Nat))])) (List.toArray []))) (
List.cons ((nat_lit 249), (Obj.mk (Value.type "function") (Option.none) (Data.func (FuncData.mk (Str.ofString "display_units") (Str.ofString "display_units") aP249 (FuncBody.stmts aB249) aS249 (3 : Nat) [] Value.none Value.none Value.none (Value.str (Str.ofString "ledgerspeak.usages") (447 : Nat)) (Option.none) (Value.ref (248 : Nat)) Value.none (0 : Nat))) (List.toArray []))) (
List.cons ((nat_lit 250), (Obj.mk (Value.type "tuple") (Option.none) (Data.seq (List.toArray []) (0 : Nat)) (List.toArray []))) (
List.cons ((nat_lit 252), (Obj.mk (Value.type "tuple") (Option.none) (Data.seq (List.toArray [(Value.str (Str.ofString "shape") (543 : Nat)), (Value.str (Str.ofString "octets") (544 : Nat)), (Value.str (Str.ofString "halves") (545 : Nat)), (Value.str (Str.ofString "code") (546 : Nat)), (Value.str (Str.ofString "mark") (547 : Nat)), (Value.str (Str.ofString "found") (548 : Nat))]) (0 : Nat)) (List.toArray []))) (
List.cons ((nat_lit 253), (Obj.mk (Value.type "tuple") (Option.none) (Data.seq (List.toArray []) (0 : Nat)) (List.toArray []))) (
List.cons ((nat_lit 255), (Obj.mk (Value.type "code") (Option.none) (Data.fields (List.toArray [(Value.str (Str.ofString "packed_units") (540 : Nat)), (Value.str (Str.ofString "packed_units") (541 : Nat)), (Value.str (Str.ofString "/claim/cut.py") (542 : Nat)), (Value.int (185 : Int) (0 : Nat)), (Value.int (2 : Int) (0 : Nat)), (Value.int (0 : Int) (0 : Nat)), (Value.int (0 : Int) (0 : Nat)), (Value.int (3 : Int) (0 : Nat)), (Value.ref (250 : Nat)), (Value.bool Bool.true), (Value.int (181 : Int) (0 : Nat)), (Value.ref (251 : Nat)), Value.none, (Value.ref (252 : Nat)), (Value.ref (253 : Nat)), (Value.ref (254 : Nat)), (Value.int (549 : Int) (0 : Nat)), (Value.int (185 : Int) (0 : Nat)), (Value.str (Str.ofString "/claim/cut.py") (550 : Nat))])) (List.toArray []))) (
List.cons ((nat_lit 256), (Obj.mk (Value.type "function") (Option.none) (Data.func (FuncData.mk (Str.ofString "packed_units") (Str.ofString "packed_units") aP256 (FuncBody.stmts aB256) aS256 (3 : Nat) [] Value.none Value.none Value.none (Value.str (Str.ofString "ledgerspeak.usages") (447 : Nat)) (Option.none) (Value.ref (255 : Nat)) Value.none (0 : Nat))) (List.toArray []))) (
List.cons ((nat_lit 257), (Obj.mk (Value.type "tuple") (Option.none) (Data.seq (List.toArray []) (0 : Nat)) (List.toArray []))) (
List.cons ((nat_lit 259), (Obj.mk (Value.type "tuple") (Option.none) (Data.seq (List.toArray [(Value.str (Str.ofString "shape") (555 : Nat)), (Value.str (Str.ofString "octets") (556 : Nat)), (Value.str (Str.ofString "found") (557 : Nat)), (Value.str (Str.ofString "code") (558 : Nat))]) (0 : Nat)) (List.toArray []))) (
List.cons ((nat_lit 260), (Obj.mk (Value.type "tuple") (Option.none) (Data.seq (List.toArray []) (0 : Nat)) (List.toArray []))) (
List.cons ((nat_lit 262), (Obj.mk (Value.type "code") (Option.none) (Data.fields (List.toArray [(Value.str (Str.ofString "binary_units") (552 : Nat)), (Value.str (Str.ofString "binary_units") (553 : Nat)), (Value.str (Str.ofString "/claim/cut.py") (554 : Nat)), (Value.int (194 : Int) (0 : Nat)), (Value.int (2 : Int) (0 : Nat)), (Value.int (0 : Int) (0 : Nat)), (Value.int (0 : Int) (0 : Nat)), (Value.int (3 : Int) (0 : Nat)), (Value.ref (257 : Nat)), (Value.bool Bool.true), (Value.int (181 : Int) (0 : Nat)), (Value.ref (258 : Nat)), Value.none, (Value.ref (259 : Nat)), (Value.ref (260 : Nat)), (Value.ref (261 : Nat)), (Value.int (559 : Int) (0 : Nat)), (Value.int (194 : Int) (0 : Nat)), (Value.str (Str.ofString "/claim/cut.py") (560 : Nat))])) (List.toArray []))) (
List.cons ((nat_lit 263), (Obj.mk (Value.type "function") (Option.none) (Data.func (FuncData.mk (Str.ofString "binary_units") (Str.ofString "binary_units") aP263 (FuncBody.stmts aB263) aS263 (3 : Nat) [] Value.none Value.none Value.none (Value.str (Str.ofString "ledgerspeak.usages") (447 : Nat)) (Option.none) (Value.ref (262 : Nat)) Value.none (0 : Nat))) (List.toArray []))) (
List.cons ((nat_lit 264), (Obj.mk (Value.type "tuple") (Option.none) (Data.seq (List.toArray []) (0 : Nat)) (List.toArray []))) (
List.cons ((nat_lit 266), (Obj.mk (Value.type "tuple") (Option.none) (Data.seq (List.toArray [(Value.str (Str.ofString "shape") (565 : Nat)), (Value.str (Str.ofString "octets") (566 : Nat)), (Value.str (Str.ofString "found") (567 : Nat))]) (0 : Nat)) (List.toArray []))) (
List.cons ((nat_lit 267), (Obj.mk (Value.type "tuple") (Option.none) (Data.seq (List.toArray []) (0 : Nat)) (List.toArray []))) (
List.cons ((nat_lit 269), (Obj.mk (Value.type "code") (Option.none) (Data.fields (List.toArray [(Value.str (Str.ofString "units_in") (562 : Nat)), (Value.str (Str.ofString "units_in") (563 : Nat)), (Value.str (Str.ofString "/claim/cut.py") (564 : Nat)), (Value.int (201 : Int) (0 : Nat)), (Value.int (2 : Int) (0 : Nat)), (Value.int (0 : Int) (0 : Nat)), (Value.int (0 : Int) (0 : Nat)), (Value.int (3 : Int) (0 : Nat)), (Value.ref (264 : Nat)), (Value.bool Bool.true), (Value.int (181 : Int) (0 : Nat)), (Value.ref (265 : Nat)), Value.none, (Value.ref (266 : Nat)), (Value.ref (267 : Nat)), (Value.ref (268 : Nat)), (Value.int (568 : Int) (0 : Nat)), (Value.int (201 : Int) (0 : Nat)), (Value.str (Str.ofString "/claim/cut.py") (569 : Nat))])) (List.toArray []))) (
List.cons ((nat_lit 270), (Obj.mk (Value.type "function") (Option.none) (Data.func (FuncData.mk (Str.ofString "units_in") (Str.ofString "units_in") aP270 (FuncBody.stmts aB270) aS270 (3 : Nat) [] Value.none Value.none Value.none (Value.str (Str.ofString "ledgerspeak.usages") (447 : Nat)) (Option.none) (Value.ref (269 : Nat)) Value.none (0 : Nat))) (List.toArray []))) (
List.cons ((nat_lit 271), (Obj.mk (Value.type "tuple") (Option.none) (Data.seq (List.toArray []) (0 : Nat)) (List.toArray []))) (
List.cons ((nat_lit 273), (Obj.mk (Value.type "tuple") (Option.none) (Data.seq (List.toArray [(Value.str (Str.ofString "shape") (574 : Nat)), (Value.str (Str.ofString "octets") (575 : Nat))]) (0 : Nat)) (List.toArray []))) (
List.cons ((nat_lit 274), (Obj.mk (Value.type "tuple") (Option.none) (Data.seq (List.toArray []) (0 : Nat)) (List.toArray []))) (
List.cons ((nat_lit 276), (Obj.mk (Value.type "code") (Option.none) (Data.fields (List.toArray [(Value.str (Str.ofString "is_number_in") (571 : Nat)), (Value.str (Str.ofString "is_number_in") (572 : Nat)), (Value.str (Str.ofString "/claim/cut.py") (573 : Nat)), (Value.int (210 : Int) (0 : Nat)), (Value.int (2 : Int) (0 : Nat)), (Value.int (0 : Int) (0 : Nat)), (Value.int (0 : Int) (0 : Nat)), (Value.int (3 : Int) (0 : Nat)), (Value.ref (271 : Nat)), (Value.bool Bool.true), (Value.int (181 : Int) (0 : Nat)), (Value.ref (272 : Nat)), Value.none, (Value.ref (273 : Nat)), (Value.ref (274 : Nat)), (Value.ref (275 : Nat)), (Value.int (576 : Int) (0 : Nat)), (Value.int (210 : Int) (0 : Nat)), (Value.str (Str.ofString "/claim/cut.py") (577 : Nat))])) (List.toArray []))) (
List.cons ((nat_lit 277), (Obj.mk (Value.type "function") (Option.none) (Data.func (FuncData.mk (Str.ofString "is_number_in") (Str.ofString "is_number_in") aP277 (FuncBody.stmts aB277) aS277 (3 : Nat) [] Value.none Value.none Value.none (Value.str (Str.ofString "ledgerspeak.usages") (447 : Nat)) (Option.none) (Value.ref (276 : Nat)) Value.none (0 : Nat))) (List.toArray []))) (
List.cons ((nat_lit 278), (Obj.mk (Value.type "tuple") (Option.none) (Data.seq (List.toArray []) (0 : Nat)) (List.toArray []))) (
List.cons ((nat_lit 280), (Obj.mk (Value.type "tuple") (Option.none) (Data.seq (List.toArray [(Value.str (Str.ofString "shape") (582 : Nat)), (Value.str (Str.ofString "octets") (583 : Nat))]) (0 : Nat)) (List.toArray []))) (
List.cons ((nat_lit 281), (Obj.mk (Value.type "tuple") (Option.none) (Data.seq (List.toArray []) (0 : Nat)) (List.toArray []))) (
List.cons ((nat_lit 283), (Obj.mk (Value.type "code") (Option.none) (Data.fields (List.toArray [(Value.str (Str.ofString "number_in") (579 : Nat)), (Value.str (Str.ofString "number_in") (580 : Nat)), (Value.str (Str.ofString "/claim/cut.py") (581 : Nat)), (Value.int (216 : Int) (0 : Nat)), (Value.int (2 : Int) (0 : Nat)), (Value.int (0 : Int) (0 : Nat)), (Value.int (0 : Int) (0 : Nat)), (Value.int (3 : Int) (0 : Nat)), (Value.ref (278 : Nat)), (Value.bool Bool.true), (Value.int (181 : Int) (0 : Nat)), (Value.ref (279 : Nat)), Value.none, (Value.ref (280 : Nat)), (Value.ref (281 : Nat)), (Value.ref (282 : Nat)), (Value.int (584 : Int) (0 : Nat)), (Value.int (216 : Int) (0 : Nat)), (Value.str (Str.ofString "/claim/cut.py") (585 : Nat))])) (List.toArray []))) (
List.cons ((nat_lit 284), (Obj.mk (Value.type "function") (Option.none) (Data.func (FuncData.mk (Str.ofString "number_in") (Str.ofString "number_in") aP284 (FuncBody.stmts aB284) aS284 (3 : Nat) [] Value.none Value.none Value.none (Value.str (Str.ofString "ledgerspeak.usages") (447 : Nat)) (Option.none) (Value.ref (283 : Nat)) Value.none (0 : Nat))) (List.toArray []))) (
List.cons ((nat_lit 285), (Obj.mk (Value.type "tuple") (Option.none) (Data.seq (List.toArray []) (0 : Nat)) (List.toArray []))) (
List.cons ((nat_lit 287), (Obj.mk (Value.type "tuple") (Option.none) (Data.seq (List.toArray [(Value.str (Str.ofString "shape") (590 : Nat)), (Value.str (Str.ofString "number") (591 : Nat))]) (0 : Nat)) (List.toArray []))) (
List.cons ((nat_lit 288), (Obj.mk (Value.type "tuple") (Option.none) (Data.seq (List.toArray []) (0 : Nat)) (List.toArray []))) (
List.cons ((nat_lit 290), (Obj.mk (Value.type "code") (Option.none) (Data.fields (List.toArray [(Value.str (Str.ofString "cut_octets") (587 : Nat)), (Value.str (Str.ofString "cut_octets") (588 : Nat)), (Value.str (Str.ofString "/claim/cut.py") (589 : Nat)), (Value.int (218 : Int) (0 : Nat)), (Value.int (2 : Int) (0 : Nat)), (Value.int (0 : Int) (0 : Nat)), (Value.int (0 : Int) (0 : Nat)), (Value.int (3 : Int) (0 : Nat)), (Value.ref (285 : Nat)), (Value.bool Bool.true), (Value.int (181 : Int) (0 : Nat)), (Value.ref (286 : Nat)), Value.none, (Value.ref (287 : Nat)), (Value.ref (288 : Nat)), (Value.ref (289 : Nat)), (Value.int (592 : Int) (0 : Nat)), (Value.int (218 : Int) (0 : Nat)), (Value.str (Str.ofString "/claim/cut.py") (593 : Nat))])) (List.toArray []))) (
List.cons ((nat_lit 291), (Obj.mk (Value.type "function") (Option.none) (Data.func (FuncData.mk (Str.ofString "cut_octets") (Str.ofString "cut_octets") aP291 (FuncBody.stmts aB291) aS291 (3 : Nat) [] Value.none Value.none Value.none (Value.str (Str.ofString "ledgerspeak.usages") (447 : Nat)) (Option.none) (Value.ref (290 : Nat)) Value.none (0 : Nat))) (List.toArray []))) (
List.cons ((nat_lit 299), (Obj.mk (Value.type "tuple") (Option.none) (Data.seq (List.toArray []) (0 : Nat)) (List.toArray []))) (
List.cons ((nat_lit 301), (Obj.mk (Value.type "tuple") (Option.none) (Data.seq (List.toArray [(Value.str (Str.ofString "self") (630 : Nat)), (Value.str (Str.ofString "text") (631 : Nat)), (Value.str (Str.ofString "symbols") (632 : Nat)), (Value.str (Str.ofString "category") (633 : Nat)), (Value.str (Str.ofString "digits") (634 : Nat)), (Value.str (Str.ofString "scale") (635 : Nat)), (Value.str (Str.ofString "is_signed") (636 : Nat)), (Value.str (Str.ofString "size") (637 : Nat))]) (0 : Nat)) (List.toArray []))) (
List.cons ((nat_lit 302), (Obj.mk (Value.type "tuple") (Option.none) (Data.seq (List.toArray []) (0 : Nat)) (List.toArray []))) (
List.cons ((nat_lit 304), (Obj.mk (Value.type "code") (Option.none) (Data.fields (List.toArray [(Value.str (Str.ofString "__init__") (627 : Nat)), (Value.str (Str.ofString "Picture.__init__") (628 : Nat)), (Value.str (Str.ofString "/claim/cut.py") (629 : Nat)), (Value.int (232 : Int) (0 : Nat)), (Value.int (8 : Int) (0 : Nat)), (Value.int (0 : Int) (0 : Nat)), (Value.int (0 : Int) (0 : Nat)), (Value.int (3 : Int) (0 : Nat)), (Value.ref (299 : Nat)), (Value.bool Bool.true), (Value.int (181 : Int) (0 : Nat)), (Value.ref (300 : Nat)), Value.none, (Value.ref (301 : Nat)), (Value.ref (302 : Nat)), (Value.ref (303 : Nat)), (Value.int (638 : Int) (0 : Nat)), (Value.int (232 : Int) (0 : Nat)), (Value.str (Str.ofString "/claim/cut.py") (639 : Nat))])) (List.toArray []))) (
List.cons ((nat_lit 305), (Obj.mk (Value.type "function") (Option.none) (Data.func (FuncData.mk (Str.ofString "__init__") (Str.ofString "Picture.__init__") aP305 (FuncBody.stmts aB305) aS305 (3 : Nat) [] Value.none Value.none Value.none (Value.str (Str.ofString "ledgerspeak.pictures") (595 : Nat)) (Option.none) (Value.ref (304 : Nat)) Value.none (0 : Nat))) (List.toArray []))) (
List.cons ((nat_lit 306), (Obj.mk (Value.type "tuple") (Option.none) (Data.seq (List.toArray []) (0 : Nat)) (List.toArray []))) (
List.cons ((nat_lit 308), (Obj.mk (Value.type "tuple") (Option.none) (Data.seq (List.toArray [(Value.str (Str.ofString "self") (644 : Nat))]) (0 : Nat)) (List.toArray []))) (
List.cons ((nat_lit 309), (Obj.mk (Value.type "tuple") (Option.none) (Data.seq (List.toArray []) (0 : Nat)) (List.toArray []))) (
List.cons ((nat_lit 311), (Obj.mk (Value.type "code") (Option.none) (Data.fields (List.toArray [(Value.str (Str.ofString "told") (641 : Nat)), (Value.str (Str.ofString "Picture.told") (642 : Nat)), (Value.str (Str.ofString "/claim/cut.py") (643 : Nat)), (Value.int (241 : Int) (0 : Nat)), (Value.int (1 : Int) (0 : Nat)), (Value.int (0 : Int) (0 : Nat)), (Value.int (0 : Int) (0 : Nat)), (Value.int (3 : Int) (0 : Nat)), (Value.ref (306 : Nat)), (Value.bool Bool.true), (Value.int (181 : Int) (0 : Nat)), (Value.ref (307 : Nat)), Value.none, (Value.ref (308 : Nat)), (Value.ref (309 : Nat)), (Value.ref (310 : Nat)), (Value.int (645 : Int) (0 : Nat)), (Value.int (241 : Int) (0 : Nat)), (Value.str (Str.ofString "/claim/cut.py") (646 : Nat))])) (List.toArray []))) (
List.cons ((nat_lit 312), (Obj.mk (Value.type "function") (Option.none) (Data.func (FuncData.mk (Str.ofString "told") (Str.ofString "Picture.told") aP312 (FuncBody.stmts aB312) aS312 (3 : Nat) [] Value.none Value.none Value.none (Value.str (Str.ofString "ledgerspeak.pictures") (595 : Nat)) (Option.none) (Value.ref (311 : Nat)) Value.none (0 : Nat))) (List.toArray []))) (
List.cons ((nat_lit 313), (Obj.mk (Value.type "tuple") (Option.none) (Data.seq (List.toArray []) (0 : Nat)) (List.toArray []))) (
List.cons ((nat_lit 316), (Obj.mk (Value.type "code") (Option.none) (Data.fields (List.toArray [(Value.str (Str.ofString "has") (648 : Nat)), (Value.str (Str.ofString "Picture.has") (649 : Nat)), (Value.str (Str.ofString "/claim/cut.py") (650 : Nat)), (Value.int (244 : Int) (0 : Nat)), (Value.int (2 : Int) (0 : Nat)), (Value.int (0 : Int) (0 : Nat)), (Value.int (0 : Int) (0 : Nat)), (Value.int (3 : Int) (0 : Nat)), (Value.ref (313 : Nat)), (Value.bool Bool.true), (Value.int (181 : Int) (0 : Nat)), (Value.ref (314 : Nat)), Value.none, Value.none, Value.none, (Value.ref (315 : Nat)), (Value.int (651 : Int) (0 : Nat)), (Value.int (244 : Int) (0 : Nat)), (Value.str (Str.ofString "/claim/cut.py") (652 : Nat))])) (List.toArray []))) (
List.cons ((nat_lit 317), (Obj.mk (Value.type "function") (Option.none) (Data.func (FuncData.mk (Str.ofString "has") (Str.ofString "Picture.has") aP317 (FuncBody.stmts aB317) aS317 (3 : Nat) [] Value.none Value.none Value.none (Value.str (Str.ofString "ledgerspeak.pictures") (595 : Nat)) (Option.none) (Value.ref (316 : Nat)) Value.none (0 : Nat))) (List.toArray []))) (
List.cons ((nat_lit 318), (Obj.mk (Value.type "tuple") (Option.none) (Data.seq (List.toArray [(Value.str (Str.ofString "category") (654 : Nat)), (Value.str (Str.ofString "digits") (655 : Nat)), (Value.str (Str.ofString "is_signed") (656 : Nat)), (Value.str (Str.ofString "scale") (657 : Nat)), (Value.str (Str.ofString "size") (658 : Nat)), (Value.str (Str.ofString "symbols") (659 : Nat)), (Value.str (Str.ofString "text") (660 : Nat))]) (0 : Nat)) (List.toArray []))) (
List.cons ((nat_lit 319), (Obj.mk (Value.type "dict") (Option.none) (Data.dict (List.toArray [(DictEntry.mk (PyData.keyHash P (Str.ofString "__module__")) (Value.str (Str.ofString "__module__") (622 : Nat)) (Value.str (Str.ofString "ledgerspeak.pictures") (595 : Nat))), (DictEntry.mk (PyData.keyHash P (Str.ofString "__firstlineno__")) (Value.str (Str.ofString "__firstlineno__") (626 : Nat)) (Value.int (230 : Int) (625 : Nat))), (DictEntry.mk (PyData.keyHash P (Str.ofString "__init__")) (Value.str (Str.ofString "__init__") (640 : Nat)) (Value.ref (305 : Nat))), (DictEntry.mk (PyData.keyHash P (Str.ofString "told")) (Value.str (Str.ofString "told") (647 : Nat)) (Value.ref (312 : Nat))), (DictEntry.mk (PyData.keyHash P (Str.ofString "has")) (Value.str (Str.ofString "has") (653 : Nat)) (Value.ref (317 : Nat))), (DictEntry.mk (PyData.keyHash P (Str.ofString "__static_attributes__")) (Value.str (Str.ofString "__static_attributes__") (661 : Nat)) (Value.ref (318 : Nat))), (DictEntry.mk (PyData.keyHash P (Str.ofString "__dict__")) (Value.str (Str.ofString "__dict__") (663 : Nat)) (Value.ref (321 : Nat))), (DictEntry.mk (PyData.keyHash P (Str.ofString "__weakref__")) (Value.str (Str.ofString "__weakref__") (665 : Nat)) (Value.ref (322 : Nat))), (DictEntry.mk (PyData.keyHash P (Str.ofString "__doc__")) (Value.str (Str.ofString "__doc__") (666 : Nat)) Value.none)]) (4 : Nat)) (List.toArray []))) (
List.cons ((nat_lit 320), (Obj.mk (Value.type "type") (Option.none) (Data.cls (ClassData.mk (Str.ofString "Picture") [(Value.type "object")] [(Value.ref (320 : Nat)), (Value.type "object")] (319 : Nat) (Str.ofString "Picture") Bool.true [] [] Bool.false (Option.none) Bool.false)) (List.toArray [(Option.none), (Option.none), (Option.some (Value.str (Str.ofString "Picture") (615 : Nat))), (Option.some (Value.str (Str.ofString "Picture") (623 : Nat))), (Option.some (Value.builtin "object.__new__")), (Option.some (Value.bool Bool.true))]))) (
List.cons ((nat_lit 321), (Obj.mk (Value.type "getset_descriptor") (Option.none) (Data.fields (List.toArray [(Value.str (Str.ofString "__dict__") (662 : Nat)), (Value.ref (320 : Nat)), (Value.builtin "function.__dict__"), (Value.builtin "function.__dict__#set")])) (List.toArray []))) (
List.cons ((nat_lit 322), (Obj.mk (Value.type "getset_descriptor") (Option.none) (Data.fields (List.toArray [(Value.str (Str.ofString "__weakref__") (664 : Nat)), (Value.ref (320 : Nat)), (Value.builtin "ExceptionGroup.__weakref__"), Value.none])) (List.toArray []))) (
List.cons ((nat_lit 332), (Obj.mk (Value.type "tuple") (Option.none) (Data.seq (List.toArray []) (0 : Nat)) (List.toArray []))) (
List.cons ((nat_lit 334), (Obj.mk (Value.type "tuple") (Option.none) (Data.seq (List.toArray [(Value.str (Str.ofString "self") (684 : Nat)), (Value.str (Str.ofString "sign") (685 : Nat)), (Value.str (Str.ofString "count") (686 : Nat)), (Value.str (Str.ofString "at") (687 : Nat))]) (0 : Nat)) (List.toArray []))) (
List.cons ((nat_lit 335), (Obj.mk (Value.type "tuple") (Option.none) (Data.seq (List.toArray []) (0 : Nat)) (List.toArray []))) (
List.cons ((nat_lit 337), (Obj.mk (Value.type "code") (Option.none) (Data.fields (List.toArray [(Value.str (Str.ofString "__init__") (681 : Nat)), (Value.str (Str.ofString "Sign.__init__") (682 : Nat)), (Value.str (Str.ofString "/claim/cut.py") (683 : Nat)), (Value.int (248 : Int) (0 : Nat)), (Value.int (4 : Int) (0 : Nat)), (Value.int (0 : Int) (0 : Nat)), (Value.int (0 : Int) (0 : Nat)), (Value.int (3 : Int) (0 : Nat)), (Value.ref (332 : Nat)), (Value.bool Bool.true), (Value.int (181 : Int) (0 : Nat)), (Value.ref (333 : Nat)), Value.none, (Value.ref (334 : Nat)), (Value.ref (335 : Nat)), (Value.ref (336 : Nat)), (Value.int (688 : Int) (0 : Nat)), (Value.int (248 : Int) (0 : Nat)), (Value.str (Str.ofString "/claim/cut.py") (689 : Nat))])) (List.toArray []))) (
List.cons ((nat_lit 338), (Obj.mk (Value.type "function") (Option.none) (Data.func (FuncData.mk (Str.ofString "__init__") (Str.ofString "Sign.__init__") aP338 (FuncBody.stmts aB338) aS338 (3 : Nat) [] Value.none Value.none Value.none (Value.str (Str.ofString "ledgerspeak.pictures") (595 : Nat)) (Option.none) (Value.ref (337 : Nat)) Value.none (0 : Nat))) (List.toArray []))) (
List.cons ((nat_lit 339), (Obj.mk (Value.type "tuple") (Option.none) (Data.seq (List.toArray []) (0 : Nat)) (List.toArray []))) (
List.cons ((nat_lit 341), (Obj.mk (Value.type "tuple") (Option.none) (Data.seq (List.toArray [(Value.str (Str.ofString "self") (694 : Nat))]) (0 : Nat)) (List.toArray []))) (
List.cons ((nat_lit 342), (Obj.mk (Value.type "tuple") (Option.none) (Data.seq (List.toArray []) (0 : Nat)) (List.toArray []))) (
List.cons ((nat_lit 344), (Obj.mk (Value.type "code") (Option.none) (Data.fields (List.toArray [(Value.str (Str.ofString "fault") (691 : Nat)), (Value.str (Str.ofString "Sign.fault") (692 : Nat)), (Value.str (Str.ofString "/claim/cut.py") (693 : Nat)), (Value.int (253 : Int) (0 : Nat)), (Value.int (1 : Int) (0 : Nat)), (Value.int (0 : Int) (0 : Nat)), (Value.int (0 : Int) (0 : Nat)), (Value.int (3 : Int) (0 : Nat)), (Value.ref (339 : Nat)), (Value.bool Bool.true), (Value.int (181 : Int) (0 : Nat)), (Value.ref (340 : Nat)), Value.none, (Value.ref (341 : Nat)), (Value.ref (342 : Nat)), (Value.ref (343 : Nat)), (Value.int (695 : Int) (0 : Nat)), (Value.int (253 : Int) (0 : Nat)), (Value.str (Str.ofString "/claim/cut.py") (696 : Nat))])) (List.toArray []))) (
List.cons ((nat_lit 345), (Obj.mk (Value.type "function") (Option.none) (Data.func (FuncData.mk (Str.ofString "fault") (Str.ofString "Sign.fault") aP345 (FuncBody.stmts aB345) aS345 (3 : Nat) [] Value.none Value.none Value.none (Value.str (Str.ofString "ledgerspeak.pictures") (595 : Nat)) (Option.none) (Value.ref (344 : Nat)) Value.none (0 : Nat))) (List.toArray []))) (
List.cons ((nat_lit 346), (Obj.mk (Value.type "tuple") (Option.none) (Data.seq (List.toArray [(Value.str (Str.ofString "at") (698 : Nat)), (Value.str (Str.ofString "count") (699 : Nat)), (Value.str (Str.ofString "sign") (700 : Nat))]) (0 : Nat)) (List.toArray []))) (
List.cons ((nat_lit 347), (Obj.mk (Value.type "dict") (Option.none) (Data.dict (List.toArray [(DictEntry.mk (PyData.keyHash P (Str.ofString "__module__")) (Value.str (Str.ofString "__module__") (676 : Nat)) (Value.str (Str.ofString "ledgerspeak.pictures") (595 : Nat))), (DictEntry.mk (PyData.keyHash P (Str.ofString "__firstlineno__")) (Value.str (Str.ofString "__firstlineno__") (680 : Nat)) (Value.int (246 : Int) (679 : Nat))), (DictEntry.mk (PyData.keyHash P (Str.ofString "__init__")) (Value.str (Str.ofString "__init__") (690 : Nat)) (Value.ref (338 : Nat))), (DictEntry.mk (PyData.keyHash P (Str.ofString "fault")) (Value.str (Str.ofString "fault") (697 : Nat)) (Value.ref (345 : Nat))), (DictEntry.mk (PyData.keyHash P (Str.ofString "__static_attributes__")) (Value.str (Str.ofString "__static_attributes__") (701 : Nat)) (Value.ref (346 : Nat))), (DictEntry.mk (PyData.keyHash P (Str.ofString "__dict__")) (Value.str (Str.ofString "__dict__") (703 : Nat)) (Value.ref (349 : Nat))), (DictEntry.mk (PyData.keyHash P (Str.ofString "__weakref__")) (Value.str (Str.ofString "__weakref__") (705 : Nat)) (Value.ref (350 : Nat))), (DictEntry.mk (PyData.keyHash P (Str.ofString "__doc__")) (Value.str (Str.ofString "__doc__") (706 : Nat)) Value.none)]) (4 : Nat)) (List.toArray []))) (
List.cons ((nat_lit 348), (Obj.mk (Value.type "type") (Option.none) (Data.cls (ClassData.mk (Str.ofString "Sign") [(Value.type "object")] [(Value.ref (348 : Nat)), (Value.type "object")] (347 : Nat) (Str.ofString "Sign") Bool.true [] [] Bool.false (Option.none) Bool.false)) (List.toArray [(Option.none), (Option.none), (Option.some (Value.str (Str.ofString "Sign") (669 : Nat))), (Option.some (Value.str (Str.ofString "Sign") (677 : Nat))), (Option.some (Value.builtin "object.__new__")), (Option.some (Value.bool Bool.true))]))) (
List.cons ((nat_lit 349), (Obj.mk (Value.type "getset_descriptor") (Option.none) (Data.fields (List.toArray [(Value.str (Str.ofString "__dict__") (702 : Nat)), (Value.ref (348 : Nat)), (Value.builtin "function.__dict__"), (Value.builtin "function.__dict__#set")])) (List.toArray []))) (
List.cons ((nat_lit 350), (Obj.mk (Value.type "getset_descriptor") (Option.none) (Data.fields (List.toArray [(Value.str (Str.ofString "__weakref__") (704 : Nat)), (Value.ref (348 : Nat)), (Value.builtin "ExceptionGroup.__weakref__"), Value.none])) (List.toArray []))) (
List.cons ((nat_lit 353), (Obj.mk (Value.type "tuple") (Option.none) (Data.seq (List.toArray []) (0 : Nat)) (List.toArray []))) (
List.cons ((nat_lit 355), (Obj.mk (Value.type "tuple") (Option.none) (Data.seq (List.toArray [(Value.str (Str.ofString "text") (712 : Nat)), (Value.str (Str.ofString "at") (713 : Nat))]) (0 : Nat)) (List.toArray []))) (
List.cons ((nat_lit 356), (Obj.mk (Value.type "tuple") (Option.none) (Data.seq (List.toArray []) (0 : Nat)) (List.toArray []))) (
List.cons ((nat_lit 358), (Obj.mk (Value.type "code") (Option.none) (Data.fields (List.toArray [(Value.str (Str.ofString "sign_at") (709 : Nat)), (Value.str (Str.ofString "sign_at") (710 : Nat)), (Value.str (Str.ofString "/claim/cut.py") (711 : Nat)), (Value.int (255 : Int) (0 : Nat)), (Value.int (2 : Int) (0 : Nat)), (Value.int (0 : Int) (0 : Nat)), (Value.int (0 : Int) (0 : Nat)), (Value.int (3 : Int) (0 : Nat)), (Value.ref (353 : Nat)), (Value.bool Bool.true), (Value.int (181 : Int) (0 : Nat)), (Value.ref (354 : Nat)), Value.none, (Value.ref (355 : Nat)), (Value.ref (356 : Nat)), (Value.ref (357 : Nat)), (Value.int (714 : Int) (0 : Nat)), (Value.int (255 : Int) (0 : Nat)), (Value.str (Str.ofString "/claim/cut.py") (715 : Nat))])) (List.toArray []))) (
List.cons ((nat_lit 359), (Obj.mk (Value.type "function") (Option.none) (Data.func (FuncData.mk (Str.ofString "sign_at") (Str.ofString "sign_at") aP359 (FuncBody.stmts aB359) aS359 (3 : Nat) [] Value.none Value.none Value.none (Value.str (Str.ofString "ledgerspeak.pictures") (595 : Nat)) (Option.none) (Value.ref (358 : Nat)) Value.none (0 : Nat))) (List.toArray []))) (
List.cons ((nat_lit 360), (Obj.mk (Value.type "tuple") (Option.none) (Data.seq (List.toArray []) (0 : Nat)) (List.toArray []))) (
List.cons ((nat_lit 363), (Obj.mk (Value.type "code") (Option.none) (Data.fields (List.toArray [(Value.str (Str.ofString "count_at") (717 : Nat)), (Value.str (Str.ofString "count_at") (718 : Nat)), (Value.str (Str.ofString "/claim/cut.py") (719 : Nat)), (Value.int (261 : Int) (0 : Nat)), (Value.int (2 : Int) (0 : Nat)), (Value.int (0 : Int) (0 : Nat)), (Value.int (0 : Int) (0 : Nat)), (Value.int (3 : Int) (0 : Nat)), (Value.ref (360 : Nat)), (Value.bool Bool.true), (Value.int (181 : Int) (0 : Nat)), (Value.ref (361 : Nat)), Value.none, Value.none, Value.none, (Value.ref (362 : Nat)), (Value.int (720 : Int) (0 : Nat)), (Value.int (261 : Int) (0 : Nat)), (Value.str (Str.ofString "/claim/cut.py") (721 : Nat))])) (List.toArray []))) (
List.cons ((nat_lit 364), (Obj.mk (Value.type "function") (Option.none) (Data.func (FuncData.mk (Str.ofString "count_at") (Str.ofString "count_at") aP364 (FuncBody.stmts aB364) aS364 (3 : Nat) [] Value.none Value.none Value.none (Value.str (Str.ofString "ledgerspeak.pictures") (595 : Nat)) (Option.none) (Value.ref (363 : Nat)) Value.none (0 : Nat))) (List.toArray []))) (
List.cons ((nat_lit 365), (Obj.mk (Value.type "tuple") (Option.none) (Data.seq (List.toArray []) (0 : Nat)) (List.toArray []))) (
List.cons ((nat_lit 367), (Obj.mk (Value.type "tuple") (Option.none) (Data.seq (List.toArray [(Value.str (Str.ofString "text") (726 : Nat)), (Value.str (Str.ofString "found") (727 : Nat)), (Value.str (Str.ofString "at") (728 : Nat)), (Value.str (Str.ofString "sign") (729 : Nat)), (Value.str (Str.ofString "count") (730 : Nat)), (Value.str (Str.ofString "end") (731 : Nat))]) (0 : Nat)) (List.toArray []))) (
List.cons ((nat_lit 368), (Obj.mk (Value.type "tuple") (Option.none) (Data.seq (List.toArray []) (0 : Nat)) (List.toArray []))) (
List.cons ((nat_lit 370), (Obj.mk (Value.type "code") (Option.none) (Data.fields (List.toArray [(Value.str (Str.ofString "signs_of") (723 : Nat)), (Value.str (Str.ofString "signs_of") (724 : Nat)), (Value.str (Str.ofString "/claim/cut.py") (725 : Nat)), (Value.int (269 : Int) (0 : Nat)), (Value.int (1 : Int) (0 : Nat)), (Value.int (0 : Int) (0 : Nat)), (Value.int (0 : Int) (0 : Nat)), (Value.int (3 : Int) (0 : Nat)), (Value.ref (365 : Nat)), (Value.bool Bool.true), (Value.int (181 : Int) (0 : Nat)), (Value.ref (366 : Nat)), Value.none, (Value.ref (367 : Nat)), (Value.ref (368 : Nat)), (Value.ref (369 : Nat)), (Value.int (732 : Int) (0 : Nat)), (Value.int (269 : Int) (0 : Nat)), (Value.str (Str.ofString "/claim/cut.py") (733 : Nat))])) (List.toArray []))) (
List.cons ((nat_lit 371), (Obj.mk (Value.type "function") (Option.none) (Data.func (FuncData.mk (Str.ofString "signs_of") (Str.ofString "signs_of") aP371 (FuncBody.stmts aB371) aS371 (3 : Nat) [] Value.none Value.none Value.none (Value.str (Str.ofString "ledgerspeak.pictures") (595 : Nat)) (Option.none) (Value.ref (370 : Nat)) Value.none (0 : Nat))) (List.toArray []))) (
List.cons ((nat_lit 372), (Obj.mk (Value.type "tuple") (Option.none) (Data.seq (List.toArray []) (0 : Nat)) (List.toArray []))) (
List.cons ((nat_lit 374), (Obj.mk (Value.type "tuple") (Option.none) (Data.seq (List.toArray [(Value.str (Str.ofString "signs") (738 : Nat)), (Value.str (Str.ofString "found") (739 : Nat)), (Value.str (Str.ofString "one") (740 : Nat))]) (0 : Nat)) (List.toArray []))) (
List.cons ((nat_lit 375), (Obj.mk (Value.type "tuple") (Option.none) (Data.seq (List.toArray []) (0 : Nat)) (List.toArray []))) (
List.cons ((nat_lit 377), (Obj.mk (Value.type "code") (Option.none) (Data.fields (List.toArray [(Value.str (Str.ofString "symbols_of") (735 : Nat)), (Value.str (Str.ofString "symbols_of") (736 : Nat)), (Value.str (Str.ofString "/claim/cut.py") (737 : Nat)), (Value.int (279 : Int) (0 : Nat)), (Value.int (1 : Int) (0 : Nat)), (Value.int (0 : Int) (0 : Nat)), (Value.int (0 : Int) (0 : Nat)), (Value.int (3 : Int) (0 : Nat)), (Value.ref (372 : Nat)), (Value.bool Bool.true), (Value.int (181 : Int) (0 : Nat)), (Value.ref (373 : Nat)), Value.none, (Value.ref (374 : Nat)), (Value.ref (375 : Nat)), (Value.ref (376 : Nat)), (Value.int (741 : Int) (0 : Nat)), (Value.int (279 : Int) (0 : Nat)), (Value.str (Str.ofString "/claim/cut.py") (742 : Nat))])) (List.toArray []))) (
List.cons ((nat_lit 378), (Obj.mk (Value.type "function") (Option.none) (Data.func (FuncData.mk (Str.ofString "symbols_of") (Str.ofString "symbols_of") aP378 (FuncBody.stmts aB378) aS378 (3 : Nat) [] Value.none Value.none Value.none (Value.str (Str.ofString "ledgerspeak.pictures") (595 : Nat)) (Option.none) (Value.ref (377 : Nat)) Value.none (0 : Nat))) (List.toArray []))) (
List.cons ((nat_lit 379), (Obj.mk (Value.type "tuple") (Option.none) (Data.seq (List.toArray []) (0 : Nat)) (List.toArray []))) (
List.cons ((nat_lit 382), (Obj.mk (Value.type "code") (Option.none) (Data.fields (List.toArray [(Value.str (Str.ofString "size_of_symbols") (744 : Nat)), (Value.str (Str.ofString "size_of_symbols") (745 : Nat)), (Value.str (Str.ofString "/claim/cut.py") (746 : Nat)), (Value.int (287 : Int) (0 : Nat)), (Value.int (1 : Int) (0 : Nat)), (Value.int (0 : Int) (0 : Nat)), (Value.int (0 : Int) (0 : Nat)), (Value.int (3 : Int) (0 : Nat)), (Value.ref (379 : Nat)), (Value.bool Bool.true), (Value.int (181 : Int) (0 : Nat)), (Value.ref (380 : Nat)), Value.none, Value.none, Value.none, (Value.ref (381 : Nat)), (Value.int (747 : Int) (0 : Nat)), (Value.int (287 : Int) (0 : Nat)), (Value.str (Str.ofString "/claim/cut.py") (748 : Nat))])) (List.toArray []))) (
List.cons ((nat_lit 383), (Obj.mk (Value.type "function") (Option.none) (Data.func (FuncData.mk (Str.ofString "size_of_symbols") (Str.ofString "size_of_symbols") aP383 (FuncBody.stmts aB383) aS383 (3 : Nat) [] Value.none Value.none Value.none (Value.str (Str.ofString "ledgerspeak.pictures") (595 : Nat)) (Option.none) (Value.ref (382 : Nat)) Value.none (0 : Nat))) (List.toArray []))) (
List.cons ((nat_lit 391), (Obj.mk (Value.type "tuple") (Option.none) (Data.seq (List.toArray []) (0 : Nat)) (List.toArray []))) (
List.cons ((nat_lit 393), (Obj.mk (Value.type "tuple") (Option.none) (Data.seq (List.toArray [(Value.str (Str.ofString "self") (765 : Nat))]) (0 : Nat)) (List.toArray []))) (
List.cons ((nat_lit 394), (Obj.mk (Value.type "tuple") (Option.none) (Data.seq (List.toArray []) (0 : Nat)) (List.toArray []))) (
List.cons ((nat_lit 396), (Obj.mk (Value.type "code") (Option.none) (Data.fields (List.toArray [(Value.str (Str.ofString "__init__") (762 : Nat)), (Value.str (Str.ofString "Order.__init__") (763 : Nat)), (Value.str (Str.ofString "/claim/cut.py") (764 : Nat)), (Value.int (291 : Int) (0 : Nat)), (Value.int (1 : Int) (0 : Nat)), (Value.int (0 : Int) (0 : Nat)), (Value.int (0 : Int) (0 : Nat)), (Value.int (3 : Int) (0 : Nat)), (Value.ref (391 : Nat)), (Value.bool Bool.true), (Value.int (181 : Int) (0 : Nat)), (Value.ref (392 : Nat)), Value.none, (Value.ref (393 : Nat)), (Value.ref (394 : Nat)), (Value.ref (395 : Nat)), (Value.int (766 : Int) (0 : Nat)), (Value.int (291 : Int) (0 : Nat)), (Value.str (Str.ofString "/claim/cut.py") (767 : Nat))])) (List.toArray []))) (
List.cons ((nat_lit 397), (Obj.mk (Value.type "function") (Option.none) (Data.func (FuncData.mk (Str.ofString "__init__") (Str.ofString "Order.__init__") aP397 (FuncBody.stmts aB397) aS397 (3 : Nat) [] Value.none Value.none Value.none (Value.str (Str.ofString "ledgerspeak.pictures") (595 : Nat)) (Option.none) (Value.ref (396 : Nat)) Value.none (0 : Nat))) (List.toArray []))) (
List.cons ((nat_lit 398), (Obj.mk (Value.type "tuple") (Option.none) (Data.seq (List.toArray []) (0 : Nat)) (List.toArray []))) (
List.cons ((nat_lit 400), (Obj.mk (Value.type "tuple") (Option.none) (Data.seq (List.toArray [(Value.str (Str.ofString "self") (772 : Nat))]) (0 : Nat)) (List.toArray []))) (
List.cons ((nat_lit 401), (Obj.mk (Value.type "tuple") (Option.none) (Data.seq (List.toArray []) (0 : Nat)) (List.toArray []))) (
List.cons ((nat_lit 403), (Obj.mk (Value.type "code") (Option.none) (Data.fields (List.toArray [(Value.str (Str.ofString "digits") (769 : Nat)), (Value.str (Str.ofString "Order.digits") (770 : Nat)), (Value.str (Str.ofString "/claim/cut.py") (771 : Nat)), (Value.int (309 : Int) (0 : Nat)), (Value.int (1 : Int) (0 : Nat)), (Value.int (0 : Int) (0 : Nat)), (Value.int (0 : Int) (0 : Nat)), (Value.int (3 : Int) (0 : Nat)), (Value.ref (398 : Nat)), (Value.bool Bool.true), (Value.int (181 : Int) (0 : Nat)), (Value.ref (399 : Nat)), Value.none, (Value.ref (400 : Nat)), (Value.ref (401 : Nat)), (Value.ref (402 : Nat)), (Value.int (773 : Int) (0 : Nat)), (Value.int (309 : Int) (0 : Nat)), (Value.str (Str.ofString "/claim/cut.py") (774 : Nat))])) (List.toArray []))) (
List.cons ((nat_lit 404), (Obj.mk (Value.type "function") (Option.none) (Data.func (FuncData.mk (Str.ofString "digits") (Str.ofString "Order.digits") aP404 (FuncBody.stmts aB404) aS404 (3 : Nat) [] Value.none Value.none Value.none (Value.str (Str.ofString "ledgerspeak.pictures") (595 : Nat)) (Option.none) (Value.ref (403 : Nat)) Value.none (0 : Nat))) (List.toArray []))) (
List.cons ((nat_lit 405), (Obj.mk (Value.type "tuple") (Option.none) (Data.seq (List.toArray []) (0 : Nat)) (List.toArray []))) (
List.cons ((nat_lit 407), (Obj.mk (Value.type "tuple") (Option.none) (Data.seq (List.toArray [(Value.str (Str.ofString "self") (779 : Nat)), (Value.str (Str.ofString "count") (780 : Nat)), (Value.str (Str.ofString "is_loose") (781 : Nat))]) (0 : Nat)) (List.toArray []))) (
List.cons ((nat_lit 408), (Obj.mk (Value.type "tuple") (Option.none) (Data.seq (List.toArray []) (0 : Nat)) (List.toArray []))) (
List.cons ((nat_lit 410), (Obj.mk (Value.type "code") (Option.none) (Data.fields (List.toArray [(Value.str (Str.ofString "add_behind") (776 : Nat)), (Value.str (Str.ofString "Order.add_behind") (777 : Nat)), (Value.str (Str.ofString "/claim/cut.py") (778 : Nat)), (Value.int (312 : Int) (0 : Nat)), (Value.int (3 : Int) (0 : Nat)), (Value.int (0 : Int) (0 : Nat)), (Value.int (0 : Int) (0 : Nat)), (Value.int (3 : Int) (0 : Nat)), (Value.ref (405 : Nat)), (Value.bool Bool.true), (Value.int (181 : Int) (0 : Nat)), (Value.ref (406 : Nat)), Value.none, (Value.ref (407 : Nat)), (Value.ref (408 : Nat)), (Value.ref (409 : Nat)), (Value.int (782 : Int) (0 : Nat)), (Value.int (312 : Int) (0 : Nat)), (Value.str (Str.ofString "/claim/cut.py") (783 : Nat))])) (List.toArray []))) (
List.cons ((nat_lit 411), (Obj.mk (Value.type "function") (Option.none) (Data.func (FuncData.mk (Str.ofString "add_behind") (Str.ofString "Order.add_behind") aP411 (FuncBody.stmts aB411) aS411 (3 : Nat) [] Value.none Value.none Value.none (Value.str (Str.ofString "ledgerspeak.pictures") (595 : Nat)) (Option.none) (Value.ref (410 : Nat)) Value.none (0 : Nat))) (List.toArray []))) (
List.cons ((nat_lit 412), (Obj.mk (Value.type "tuple") (Option.none) (Data.seq (List.toArray []) (0 : Nat)) (List.toArray []))) (
List.cons ((nat_lit 414), (Obj.mk (Value.type "tuple") (Option.none) (Data.seq (List.toArray [(Value.str (Str.ofString "self") (788 : Nat)), (Value.str (Str.ofString "one") (789 : Nat))]) (0 : Nat)) (List.toArray []))) (
List.cons ((nat_lit 415), (Obj.mk (Value.type "tuple") (Option.none) (Data.seq (List.toArray []) (0 : Nat)) (List.toArray []))) (
List.cons ((nat_lit 417), (Obj.mk (Value.type "code") (Option.none) (Data.fields (List.toArray [(Value.str (Str.ofString "take_nine") (785 : Nat)), (Value.str (Str.ofString "Order.take_nine") (786 : Nat)), (Value.str (Str.ofString "/claim/cut.py") (787 : Nat)), (Value.int (317 : Int) (0 : Nat)), (Value.int (2 : Int) (0 : Nat)), (Value.int (0 : Int) (0 : Nat)), (Value.int (0 : Int) (0 : Nat)), (Value.int (3 : Int) (0 : Nat)), (Value.ref (412 : Nat)), (Value.bool Bool.true), (Value.int (181 : Int) (0 : Nat)), (Value.ref (413 : Nat)), Value.none, (Value.ref (414 : Nat)), (Value.ref (415 : Nat)), (Value.ref (416 : Nat)), (Value.int (790 : Int) (0 : Nat)), (Value.int (317 : Int) (0 : Nat)), (Value.str (Str.ofString "/claim/cut.py") (791 : Nat))])) (List.toArray []))) (
List.cons ((nat_lit 418), (Obj.mk (Value.type "function") (Option.none) (Data.func (FuncData.mk (Str.ofString "take_nine") (Str.ofString "Order.take_nine") aP418 (FuncBody.stmts aB418) aS418 (3 : Nat) [] Value.none Value.none Value.none (Value.str (Str.ofString "ledgerspeak.pictures") (595 : Nat)) (Option.none) (Value.ref (417 : Nat)) Value.none (0 : Nat))) (List.toArray []))) (
List.cons ((nat_lit 419), (Obj.mk (Value.type "tuple") (Option.none) (Data.seq (List.toArray []) (0 : Nat)) (List.toArray []))) (
List.cons ((nat_lit 421), (Obj.mk (Value.type "tuple") (Option.none) (Data.seq (List.toArray [(Value.str (Str.ofString "self") (796 : Nat)), (Value.str (Str.ofString "one") (797 : Nat))]) (0 : Nat)) (List.toArray []))) (
List.cons ((nat_lit 422), (Obj.mk (Value.type "tuple") (Option.none) (Data.seq (List.toArray []) (0 : Nat)) (List.toArray []))) (
List.cons ((nat_lit 424), (Obj.mk (Value.type "code") (Option.none) (Data.fields (List.toArray [(Value.str (Str.ofString "take_zero") (793 : Nat)), (Value.str (Str.ofString "Order.take_zero") (794 : Nat)), (Value.str (Str.ofString "/claim/cut.py") (795 : Nat)), (Value.int (323 : Int) (0 : Nat)), (Value.int (2 : Int) (0 : Nat)), (Value.int (0 : Int) (0 : Nat)), (Value.int (0 : Int) (0 : Nat)), (Value.int (3 : Int) (0 : Nat)), (Value.ref (419 : Nat)), (Value.bool Bool.true), (Value.int (181 : Int) (0 : Nat)), (Value.ref (420 : Nat)), Value.none, (Value.ref (421 : Nat)), (Value.ref (422 : Nat)), (Value.ref (423 : Nat)), (Value.int (798 : Int) (0 : Nat)), (Value.int (323 : Int) (0 : Nat)), (Value.str (Str.ofString "/claim/cut.py") (799 : Nat))])) (List.toArray []))) (
List.cons ((nat_lit 425), (Obj.mk (Value.type "function") (Option.none) (Data.func (FuncData.mk (Str.ofString "take_zero") (Str.ofString "Order.take_zero") aP425 (FuncBody.stmts aB425) aS425 (3 : Nat) [] Value.none Value.none Value.none (Value.str (Str.ofString "ledgerspeak.pictures") (595 : Nat)) (Option.none) (Value.ref (424 : Nat)) Value.none (0 : Nat))) (List.toArray []))) (
List.cons ((nat_lit 426), (Obj.mk (Value.type "tuple") (Option.none) (Data.seq (List.toArray []) (0 : Nat)) (List.toArray []))) (
List.cons ((nat_lit 428), (Obj.mk (Value.type "tuple") (Option.none) (Data.seq (List.toArray [(Value.str (Str.ofString "self") (804 : Nat)), (Value.str (Str.ofString "one") (805 : Nat))]) (0 : Nat)) (List.toArray []))) (
List.cons ((nat_lit 429), (Obj.mk (Value.type "tuple") (Option.none) (Data.seq (List.toArray []) (0 : Nat)) (List.toArray []))) (
List.cons ((nat_lit 431), (Obj.mk (Value.type "code") (Option.none) (Data.fields (List.toArray [(Value.str (Str.ofString "take_point") (801 : Nat)), (Value.str (Str.ofString "Order.take_point") (802 : Nat)), (Value.str (Str.ofString "/claim/cut.py") (803 : Nat)), (Value.int (330 : Int) (0 : Nat)), (Value.int (2 : Int) (0 : Nat)), (Value.int (0 : Int) (0 : Nat)), (Value.int (0 : Int) (0 : Nat)), (Value.int (3 : Int) (0 : Nat)), (Value.ref (426 : Nat)), (Value.bool Bool.true), (Value.int (181 : Int) (0 : Nat)), (Value.ref (427 : Nat)), Value.none, (Value.ref (428 : Nat)), (Value.ref (429 : Nat)), (Value.ref (430 : Nat)), (Value.int (806 : Int) (0 : Nat)), (Value.int (330 : Int) (0 : Nat)), (Value.str (Str.ofString "/claim/cut.py") (807 : Nat))])) (List.toArray []))) (
List.cons ((nat_lit 432), (Obj.mk (Value.type "function") (Option.none) (Data.func (FuncData.mk (Str.ofString "take_point") (Str.ofString "Order.take_point") aP432 (FuncBody.stmts aB432) aS432 (3 : Nat) [] Value.none Value.none Value.none (Value.str (Str.ofString "ledgerspeak.pictures") (595 : Nat)) (Option.none) (Value.ref (431 : Nat)) Value.none (0 : Nat))) (List.toArray []))) (
List.cons ((nat_lit 433), (Obj.mk (Value.type "tuple") (Option.none) (Data.seq (List.toArray []) (0 : Nat)) (List.toArray []))) (
List.cons ((nat_lit 435), (Obj.mk (Value.type "tuple") (Option.none) (Data.seq (List.toArray [(Value.str (Str.ofString "self") (812 : Nat)), (Value.str (Str.ofString "one") (813 : Nat))]) (0 : Nat)) (List.toArray []))) (
List.cons ((nat_lit 436), (Obj.mk (Value.type "tuple") (Option.none) (Data.seq (List.toArray []) (0 : Nat)) (List.toArray []))) (
List.cons ((nat_lit 438), (Obj.mk (Value.type "code") (Option.none) (Data.fields (List.toArray [(Value.str (Str.ofString "take_scaling") (809 : Nat)), (Value.str (Str.ofString "Order.take_scaling") (810 : Nat)), (Value.str (Str.ofString "/claim/cut.py") (811 : Nat)), (Value.int (335 : Int) (0 : Nat)), (Value.int (2 : Int) (0 : Nat)), (Value.int (0 : Int) (0 : Nat)), (Value.int (0 : Int) (0 : Nat)), (Value.int (3 : Int) (0 : Nat)), (Value.ref (433 : Nat)), (Value.bool Bool.true), (Value.int (181 : Int) (0 : Nat)), (Value.ref (434 : Nat)), Value.none, (Value.ref (435 : Nat)), (Value.ref (436 : Nat)), (Value.ref (437 : Nat)), (Value.int (814 : Int) (0 : Nat)), (Value.int (335 : Int) (0 : Nat)), (Value.str (Str.ofString "/claim/cut.py") (815 : Nat))])) (List.toArray []))) (
List.cons ((nat_lit 439), (Obj.mk (Value.type "function") (Option.none) (Data.func (FuncData.mk (Str.ofString "take_scaling") (Str.ofString "Order.take_scaling") aP439 (FuncBody.stmts aB439) aS439 (3 : Nat) [] Value.none Value.none Value.none (Value.str (Str.ofString "ledgerspeak.pictures") (595 : Nat)) (Option.none) (Value.ref (438 : Nat)) Value.none (0 : Nat))) (List.toArray []))) (
List.cons ((nat_lit 440), (Obj.mk (Value.type "tuple") (Option.none) (Data.seq (List.toArray []) (0 : Nat)) (List.toArray []))) (
List.cons ((nat_lit 442), (Obj.mk (Value.type "tuple") (Option.none) (Data.seq (List.toArray [(Value.str (Str.ofString "self") (820 : Nat)), (Value.str (Str.ofString "one") (821 : Nat))]) (0 : Nat)) (List.toArray []))) (
List.cons ((nat_lit 443), (Obj.mk (Value.type "tuple") (Option.none) (Data.seq (List.toArray []) (0 : Nat)) (List.toArray []))) (
List.cons ((nat_lit 445), (Obj.mk (Value.type "code") (Option.none) (Data.fields (List.toArray [(Value.str (Str.ofString "take_inserted") (817 : Nat)), (Value.str (Str.ofString "Order.take_inserted") (818 : Nat)), (Value.str (Str.ofString "/claim/cut.py") (819 : Nat)), (Value.int (345 : Int) (0 : Nat)), (Value.int (2 : Int) (0 : Nat)), (Value.int (0 : Int) (0 : Nat)), (Value.int (0 : Int) (0 : Nat)), (Value.int (3 : Int) (0 : Nat)), (Value.ref (440 : Nat)), (Value.bool Bool.true), (Value.int (181 : Int) (0 : Nat)), (Value.ref (441 : Nat)), Value.none, (Value.ref (442 : Nat)), (Value.ref (443 : Nat)), (Value.ref (444 : Nat)), (Value.int (822 : Int) (0 : Nat)), (Value.int (345 : Int) (0 : Nat)), (Value.str (Str.ofString "/claim/cut.py") (823 : Nat))])) (List.toArray []))) (
List.cons ((nat_lit 446), (Obj.mk (Value.type "function") (Option.none) (Data.func (FuncData.mk (Str.ofString "take_inserted") (Str.ofString "Order.take_inserted") aP446 (FuncBody.stmts aB446) aS446 (3 : Nat) [] Value.none Value.none Value.none (Value.str (Str.ofString "ledgerspeak.pictures") (595 : Nat)) (Option.none) (Value.ref (445 : Nat)) Value.none (0 : Nat))) (List.toArray []))) (
List.cons ((nat_lit 447), (Obj.mk (Value.type "tuple") (Option.none) (Data.seq (List.toArray []) (0 : Nat)) (List.toArray []))) (
List.cons ((nat_lit 449), (Obj.mk (Value.type "tuple") (Option.none) (Data.seq (List.toArray [(Value.str (Str.ofString "self") (828 : Nat)), (Value.str (Str.ofString "one") (829 : Nat)), (Value.str (Str.ofString "count") (830 : Nat))]) (0 : Nat)) (List.toArray []))) (
List.cons ((nat_lit 450), (Obj.mk (Value.type "tuple") (Option.none) (Data.seq (List.toArray []) (0 : Nat)) (List.toArray []))) (
List.cons ((nat_lit 452), (Obj.mk (Value.type "code") (Option.none) (Data.fields (List.toArray [(Value.str (Str.ofString "float_on") (825 : Nat)), (Value.str (Str.ofString "Order.float_on") (826 : Nat)), (Value.str (Str.ofString "/claim/cut.py") (827 : Nat)), (Value.int (350 : Int) (0 : Nat)), (Value.int (3 : Int) (0 : Nat)), (Value.int (0 : Int) (0 : Nat)), (Value.int (0 : Int) (0 : Nat)), (Value.int (3 : Int) (0 : Nat)), (Value.ref (447 : Nat)), (Value.bool Bool.true), (Value.int (181 : Int) (0 : Nat)), (Value.ref (448 : Nat)), Value.none, (Value.ref (449 : Nat)), (Value.ref (450 : Nat)), (Value.ref (451 : Nat)), (Value.int (831 : Int) (0 : Nat)), (Value.int (350 : Int) (0 : Nat)), (Value.str (Str.ofString "/claim/cut.py") (832 : Nat))])) (List.toArray []))) (
List.cons ((nat_lit 453), (Obj.mk (Value.type "function") (Option.none) (Data.func (FuncData.mk (Str.ofString "float_on") (Str.ofString "Order.float_on") aP453 (FuncBody.stmts aB453) aS453 (3 : Nat) [] Value.none Value.none Value.none (Value.str (Str.ofString "ledgerspeak.pictures") (595 : Nat)) (Option.none) (Value.ref (452 : Nat)) Value.none (0 : Nat))) (List.toArray []))) (
List.cons ((nat_lit 454), (Obj.mk (Value.type "tuple") (Option.none) (Data.seq (List.toArray []) (0 : Nat)) (List.toArray []))) (
List.cons ((nat_lit 456), (Obj.mk (Value.type "tuple") (Option.none) (Data.seq (List.toArray [(Value.str (Str.ofString "self") (837 : Nat))]) (0 : Nat)) (List.toArray []))) (
List.cons ((nat_lit 457), (Obj.mk (Value.type "tuple") (Option.none) (Data.seq (List.toArray []) (0 : Nat)) (List.toArray []))) (
List.cons ((nat_lit 459), (Obj.mk (Value.type "code") (Option.none) (Data.fields (List.toArray [(Value.str (Str.ofString "may_float") (834 : Nat)), (Value.str (Str.ofString "Order.may_float") (835 : Nat)), (Value.str (Str.ofString "/claim/cut.py") (836 : Nat)), (Value.int (354 : Int) (0 : Nat)), (Value.int (1 : Int) (0 : Nat)), (Value.int (0 : Int) (0 : Nat)), (Value.int (0 : Int) (0 : Nat)), (Value.int (3 : Int) (0 : Nat)), (Value.ref (454 : Nat)), (Value.bool Bool.true), (Value.int (181 : Int) (0 : Nat)), (Value.ref (455 : Nat)), Value.none, (Value.ref (456 : Nat)), (Value.ref (457 : Nat)), (Value.ref (458 : Nat)), (Value.int (838 : Int) (0 : Nat)), (Value.int (354 : Int) (0 : Nat)), (Value.str (Str.ofString "/claim/cut.py") (839 : Nat))])) (List.toArray []))) (
List.cons ((nat_lit 460), (Obj.mk (Value.type "function") (Option.none) (Data.func (FuncData.mk (Str.ofString "may_float") (Str.ofString "Order.may_float") aP460 (FuncBody.stmts aB460) aS460 (3 : Nat) [] Value.none Value.none Value.none (Value.str (Str.ofString "ledgerspeak.pictures") (595 : Nat)) (Option.none) (Value.ref (459 : Nat)) Value.none (0 : Nat))) (List.toArray []))) (
List.cons ((nat_lit 461), (Obj.mk (Value.type "tuple") (Option.none) (Data.seq (List.toArray []) (0 : Nat)) (List.toArray []))) (
List.cons ((nat_lit 463), (Obj.mk (Value.type "tuple") (Option.none) (Data.seq (List.toArray [(Value.str (Str.ofString "self") (844 : Nat)), (Value.str (Str.ofString "one") (845 : Nat))]) (0 : Nat)) (List.toArray []))) (
List.cons ((nat_lit 464), (Obj.mk (Value.type "tuple") (Option.none) (Data.seq (List.toArray []) (0 : Nat)) (List.toArray []))) (
List.cons ((nat_lit 466), (Obj.mk (Value.type "code") (Option.none) (Data.fields (List.toArray [(Value.str (Str.ofString "take_sign") (841 : Nat)), (Value.str (Str.ofString "Order.take_sign") (842 : Nat)), (Value.str (Str.ofString "/claim/cut.py") (843 : Nat)), (Value.int (357 : Int) (0 : Nat)), (Value.int (2 : Int) (0 : Nat)), (Value.int (0 : Int) (0 : Nat)), (Value.int (0 : Int) (0 : Nat)), (Value.int (3 : Int) (0 : Nat)), (Value.ref (461 : Nat)), (Value.bool Bool.true), (Value.int (181 : Int) (0 : Nat)), (Value.ref (462 : Nat)), Value.none, (Value.ref (463 : Nat)), (Value.ref (464 : Nat)), (Value.ref (465 : Nat)), (Value.int (846 : Int) (0 : Nat)), (Value.int (357 : Int) (0 : Nat)), (Value.str (Str.ofString "/claim/cut.py") (847 : Nat))])) (List.toArray []))) (
List.cons ((nat_lit 467), (Obj.mk (Value.type "function") (Option.none) (Data.func (FuncData.mk (Str.ofString "take_sign") (Str.ofString "Order.take_sign") aP467 (FuncBody.stmts aB467) aS467 (3 : Nat) [] Value.none Value.none Value.none (Value.str (Str.ofString "ledgerspeak.pictures") (595 : Nat)) (Option.none) (Value.ref (466 : Nat)) Value.none (0 : Nat))) (List.toArray []))) (
List.cons ((nat_lit 468), (Obj.mk (Value.type "tuple") (Option.none) (Data.seq (List.toArray []) (0 : Nat)) (List.toArray []))) (
List.cons ((nat_lit 470), (Obj.mk (Value.type "tuple") (Option.none) (Data.seq (List.toArray [(Value.str (Str.ofString "self") (852 : Nat)), (Value.str (Str.ofString "one") (853 : Nat))]) (0 : Nat)) (List.toArray []))) (
List.cons ((nat_lit 471), (Obj.mk (Value.type "tuple") (Option.none) (Data.seq (List.toArray []) (0 : Nat)) (List.toArray []))) (
List.cons ((nat_lit 473), (Obj.mk (Value.type "code") (Option.none) (Data.fields (List.toArray [(Value.str (Str.ofString "take_money") (849 : Nat)), (Value.str (Str.ofString "Order.take_money") (850 : Nat)), (Value.str (Str.ofString "/claim/cut.py") (851 : Nat)), (Value.int (366 : Int) (0 : Nat)), (Value.int (2 : Int) (0 : Nat)), (Value.int (0 : Int) (0 : Nat)), (Value.int (0 : Int) (0 : Nat)), (Value.int (3 : Int) (0 : Nat)), (Value.ref (468 : Nat)), (Value.bool Bool.true), (Value.int (181 : Int) (0 : Nat)), (Value.ref (469 : Nat)), Value.none, (Value.ref (470 : Nat)), (Value.ref (471 : Nat)), (Value.ref (472 : Nat)), (Value.int (854 : Int) (0 : Nat)), (Value.int (366 : Int) (0 : Nat)), (Value.str (Str.ofString "/claim/cut.py") (855 : Nat))])) (List.toArray []))) (
List.cons ((nat_lit 474), (Obj.mk (Value.type "function") (Option.none) (Data.func (FuncData.mk (Str.ofString "take_money") (Str.ofString "Order.take_money") aP474 (FuncBody.stmts aB474) aS474 (3 : Nat) [] Value.none Value.none Value.none (Value.str (Str.ofString "ledgerspeak.pictures") (595 : Nat)) (Option.none) (Value.ref (473 : Nat)) Value.none (0 : Nat))) (List.toArray []))) (
List.cons ((nat_lit 475), (Obj.mk (Value.type "tuple") (Option.none) (Data.seq (List.toArray []) (0 : Nat)) (List.toArray []))) (
List.cons ((nat_lit 477), (Obj.mk (Value.type "tuple") (Option.none) (Data.seq (List.toArray [(Value.str (Str.ofString "self") (860 : Nat)), (Value.str (Str.ofString "one") (861 : Nat))]) (0 : Nat)) (List.toArray []))) (
List.cons ((nat_lit 478), (Obj.mk (Value.type "tuple") (Option.none) (Data.seq (List.toArray []) (0 : Nat)) (List.toArray []))) (
List.cons ((nat_lit 480), (Obj.mk (Value.type "code") (Option.none) (Data.fields (List.toArray [(Value.str (Str.ofString "take_end") (857 : Nat)), (Value.str (Str.ofString "Order.take_end") (858 : Nat)), (Value.str (Str.ofString "/claim/cut.py") (859 : Nat)), (Value.int (377 : Int) (0 : Nat)), (Value.int (2 : Int) (0 : Nat)), (Value.int (0 : Int) (0 : Nat)), (Value.int (0 : Int) (0 : Nat)), (Value.int (3 : Int) (0 : Nat)), (Value.ref (475 : Nat)), (Value.bool Bool.true), (Value.int (181 : Int) (0 : Nat)), (Value.ref (476 : Nat)), Value.none, (Value.ref (477 : Nat)), (Value.ref (478 : Nat)), (Value.ref (479 : Nat)), (Value.int (862 : Int) (0 : Nat)), (Value.int (377 : Int) (0 : Nat)), (Value.str (Str.ofString "/claim/cut.py") (863 : Nat))])) (List.toArray []))) (
List.cons ((nat_lit 481), (Obj.mk (Value.type "function") (Option.none) (Data.func (FuncData.mk (Str.ofString "take_end") (Str.ofString "Order.take_end") aP481 (FuncBody.stmts aB481) aS481 (3 : Nat) [] Value.none Value.none Value.none (Value.str (Str.ofString "ledgerspeak.pictures") (595 : Nat)) (Option.none) (Value.ref (480 : Nat)) Value.none (0 : Nat))) (List.toArray []))) (
List.cons ((nat_lit 482), (Obj.mk (Value.type "tuple") (Option.none) (Data.seq (List.toArray []) (0 : Nat)) (List.toArray []))) (
List.cons ((nat_lit 484), (Obj.mk (Value.type "tuple") (Option.none) (Data.seq (List.toArray [(Value.str (Str.ofString "self") (868 : Nat)), (Value.str (Str.ofString "one") (869 : Nat)), (Value.str (Str.ofString "sign") (870 : Nat))]) (0 : Nat)) (List.toArray []))) (
List.cons ((nat_lit 485), (Obj.mk (Value.type "tuple") (Option.none) (Data.seq (List.toArray []) (0 : Nat)) (List.toArray []))) (
List.cons ((nat_lit 487), (Obj.mk (Value.type "code") (Option.none) (Data.fields (List.toArray [(Value.str (Str.ofString "take") (865 : Nat)), (Value.str (Str.ofString "Order.take") (866 : Nat)), (Value.str (Str.ofString "/claim/cut.py") (867 : Nat)), (Value.int (383 : Int) (0 : Nat)), (Value.int (2 : Int) (0 : Nat)), (Value.int (0 : Int) (0 : Nat)), (Value.int (0 : Int) (0 : Nat)), (Value.int (3 : Int) (0 : Nat)), (Value.ref (482 : Nat)), (Value.bool Bool.true), (Value.int (181 : Int) (0 : Nat)), (Value.ref (483 : Nat)), Value.none, (Value.ref (484 : Nat)), (Value.ref (485 : Nat)), (Value.ref (486 : Nat)), (Value.int (871 : Int) (0 : Nat)), (Value.int (383 : Int) (0 : Nat)), (Value.str (Str.ofString "/claim/cut.py") (872 : Nat))])) (List.toArray []))) (
List.cons ((nat_lit 488), (Obj.mk (Value.type "function") (Option.none) (Data.func (FuncData.mk (Str.ofString "take") (Str.ofString "Order.take") aP488 (FuncBody.stmts aB488) aS488 (3 : Nat) [] Value.none Value.none Value.none (Value.str (Str.ofString "ledgerspeak.pictures") (595 : Nat)) (Option.none) (Value.ref (487 : Nat)) Value.none (0 : Nat))) (List.toArray []))) (
List.cons ((nat_lit 489), (Obj.mk (Value.type "tuple") (Option.none) (Data.seq (List.toArray []) (0 : Nat)) (List.toArray []))) (
List.cons ((nat_lit 491), (Obj.mk (Value.type "tuple") (Option.none) (Data.seq (List.toArray [(Value.str (Str.ofString "self") (877 : Nat))]) (0 : Nat)) (List.toArray []))) (
List.cons ((nat_lit 492), (Obj.mk (Value.type "tuple") (Option.none) (Data.seq (List.toArray []) (0 : Nat)) (List.toArray []))) (
List.cons ((nat_lit 494), (Obj.mk (Value.type "code") (Option.none) (Data.fields (List.toArray [(Value.str (Str.ofString "is_whole") (874 : Nat)), (Value.str (Str.ofString "Order.is_whole") (875 : Nat)), (Value.str (Str.ofString "/claim/cut.py") (876 : Nat)), (Value.int (408 : Int) (0 : Nat)), (Value.int (1 : Int) (0 : Nat)), (Value.int (0 : Int) (0 : Nat)), (Value.int (0 : Int) (0 : Nat)), (Value.int (3 : Int) (0 : Nat)), (Value.ref (489 : Nat)), (Value.bool Bool.true), (Value.int (181 : Int) (0 : Nat)), (Value.ref (490 : Nat)), Value.none, (Value.ref (491 : Nat)), (Value.ref (492 : Nat)), (Value.ref (493 : Nat)), (Value.int (878 : Int) (0 : Nat)), (Value.int (408 : Int) (0 : Nat)), (Value.str (Str.ofString "/claim/cut.py") (879 : Nat))])) (List.toArray []))) (
List.cons ((nat_lit 495), (Obj.mk (Value.type "function") (Option.none) (Data.func (FuncData.mk (Str.ofString "is_whole") (Str.ofString "Order.is_whole") aP495 (FuncBody.stmts aB495) aS495 (3 : Nat) [] Value.none Value.none Value.none (Value.str (Str.ofString "ledgerspeak.pictures") (595 : Nat)) (Option.none) (Value.ref (494 : Nat)) Value.none (0 : Nat))) (List.toArray []))) (
List.cons ((nat_lit 496), (Obj.mk (Value.type "tuple") (Option.none) (Data.seq (List.toArray []) (0 : Nat)) (List.toArray []))) (
List.cons ((nat_lit 498), (Obj.mk (Value.type "tuple") (Option.none) (Data.seq (List.toArray [(Value.str (Str.ofString "self") (884 : Nat))]) (0 : Nat)) (List.toArray []))) (
List.cons ((nat_lit 499), (Obj.mk (Value.type "tuple") (Option.none) (Data.seq (List.toArray []) (0 : Nat)) (List.toArray []))) (
List.cons ((nat_lit 501), (Obj.mk (Value.type "code") (Option.none) (Data.fields (List.toArray [(Value.str (Str.ofString "scale") (881 : Nat)), (Value.str (Str.ofString "Order.scale") (882 : Nat)), (Value.str (Str.ofString "/claim/cut.py") (883 : Nat)), (Value.int (413 : Int) (0 : Nat)), (Value.int (1 : Int) (0 : Nat)), (Value.int (0 : Int) (0 : Nat)), (Value.int (0 : Int) (0 : Nat)), (Value.int (3 : Int) (0 : Nat)), (Value.ref (496 : Nat)), (Value.bool Bool.true), (Value.int (181 : Int) (0 : Nat)), (Value.ref (497 : Nat)), Value.none, (Value.ref (498 : Nat)), (Value.ref (499 : Nat)), (Value.ref (500 : Nat)), (Value.int (885 : Int) (0 : Nat)), (Value.int (413 : Int) (0 : Nat)), (Value.str (Str.ofString "/claim/cut.py") (886 : Nat))])) (List.toArray []))) (
List.cons ((nat_lit 502), (Obj.mk (Value.type "function") (Option.none) (Data.func (FuncData.mk (Str.ofString "scale") (Str.ofString "Order.scale") aP502 (FuncBody.stmts aB502) aS502 (3 : Nat) [] Value.none Value.none Value.none (Value.str (Str.ofString "ledgerspeak.pictures") (595 : Nat)) (Option.none) (Value.ref (501 : Nat)) Value.none (0 : Nat))) (List.toArray []))) (
List.cons ((nat_lit 503), (Obj.mk (Value.type "tuple") (Option.none) (Data.seq (List.toArray [(Value.str (Str.ofString "behind") (888 : Nat)), (Value.str (Str.ofString "floats") (889 : Nat)), (Value.str (Str.ofString "is_inserted") (890 : Nat)), (Value.str (Str.ofString "is_late") (891 : Nat)), (Value.str (Str.ofString "is_over") (892 : Nat)), (Value.str (Str.ofString "is_plain") (893 : Nat)), (Value.str (Str.ofString "last") (894 : Nat)), (Value.str (Str.ofString "lead") (895 : Nat)), (Value.str (Str.ofString "money") (896 : Nat)), (Value.str (Str.ofString "nines") (897 : Nat)), (Value.str (Str.ofString "point") (898 : Nat)), (Value.str (Str.ofString "seen") (899 : Nat)), (Value.str (Str.ofString "sign") (900 : Nat)), (Value.str (Str.ofString "trail") (901 : Nat)), (Value.str (Str.ofString "zero") (902 : Nat)), (Value.str (Str.ofString "zeros") (903 : Nat))]) (0 : Nat)) (List.toArray []))) (
List.cons ((nat_lit 504), (Obj.mk (Value.type "dict") (Option.none) (Data.dict (List.toArray [(DictEntry.mk (PyData.keyHash P (Str.ofString "__module__")) (Value.str (Str.ofString "__module__") (757 : Nat)) (Value.str (Str.ofString "ledgerspeak.pictures") (595 : Nat))), (DictEntry.mk (PyData.keyHash P (Str.ofString "__firstlineno__")) (Value.str (Str.ofString "__firstlineno__") (761 : Nat)) (Value.int (289 : Int) (760 : Nat))), (DictEntry.mk (PyData.keyHash P (Str.ofString "__init__")) (Value.str (Str.ofString "__init__") (768 : Nat)) (Value.ref (397 : Nat))), (DictEntry.mk (PyData.keyHash P (Str.ofString "digits")) (Value.str (Str.ofString "digits") (775 : Nat)) (Value.ref (404 : Nat))), (DictEntry.mk (PyData.keyHash P (Str.ofString "add_behind")) (Value.str (Str.ofString "add_behind") (784 : Nat)) (Value.ref (411 : Nat))), (DictEntry.mk (PyData.keyHash P (Str.ofString "take_nine")) (Value.str (Str.ofString "take_nine") (792 : Nat)) (Value.ref (418 : Nat))), (DictEntry.mk (PyData.keyHash P (Str.ofString "take_zero")) (Value.str (Str.ofString "take_zero") (800 : Nat)) (Value.ref (425 : Nat))), (DictEntry.mk (PyData.keyHash P (Str.ofString "take_point")) (Value.str (Str.ofString "take_point") (808 : Nat)) (Value.ref (432 : Nat))), (DictEntry.mk (PyData.keyHash P (Str.ofString "take_scaling")) (Value.str (Str.ofString "take_scaling") (816 : Nat)) (Value.ref (439 : Nat))), (DictEntry.mk (PyData.keyHash P (Str.ofString "take_inserted")) (Value.str (Str.ofString "take_inserted") (824 : Nat)) (Value.ref (446 : Nat))), (DictEntry.mk (PyData.keyHash P (Str.ofString "float_on")) (Value.str (Str.ofString "float_on") (833 : Nat)) (Value.ref (453 : Nat))), (DictEntry.mk (PyData.keyHash P (Str.ofString "may_float")) (Value.str (Str.ofString "may_float") (840 : Nat)) (Value.ref (460 : Nat))), (DictEntry.mk (PyData.keyHash P (Str.ofString "take_sign")) (Value.str (Str.ofString "take_sign") (848 : Nat)) (Value.ref (467 : Nat))), (DictEntry.mk (PyData.keyHash P (Str.ofString "take_money")) (Value.str (Str.ofString "take_money") (856 : Nat)) (Value.ref (474 : Nat))), (DictEntry.mk (PyData.keyHash P (Str.ofString "take_end")) (Value.str (Str.ofString "take_end") (864 : Nat)) (Value.ref (481 : Nat))), (DictEntry.mk (PyData.keyHash P (Str.ofString "take")) (Value.str (Str.ofString "take") (873 : Nat)) (Value.ref (488 : Nat))), (DictEntry.mk (PyData.keyHash P (Str.ofString "is_whole")) (Value.str (Str.ofString "is_whole") (880 : Nat)) (Value.ref (495 : Nat))), (DictEntry.mk (PyData.keyHash P (Str.ofString "scale")) (Value.str (Str.ofString "scale") (887 : Nat)) (Value.ref (502 : Nat))), (DictEntry.mk (PyData.keyHash P (Str.ofString "__static_attributes__")) (Value.str (Str.ofString "__static_attributes__") (904 : Nat)) (Value.ref (503 : Nat))), (DictEntry.mk (PyData.keyHash P (Str.ofString "__dict__")) (Value.str (Str.ofString "__dict__") (906 : Nat)) (Value.ref (506 : Nat))), (DictEntry.mk (PyData.keyHash P (Str.ofString "__weakref__")) (Value.str (Str.ofString "__weakref__") (908 : Nat)) (Value.ref (507 : Nat))), (DictEntry.mk (PyData.keyHash P (Str.ofString "__doc__")) (Value.str (Str.ofString "__doc__") (909 : Nat)) Value.none)]) (4 : Nat)) (List.toArray []))) (
List.cons ((nat_lit 505), (Obj.mk (Value.type "type") (Option.none) (Data.cls (ClassData.mk (Str.ofString "Order") [(Value.type "object")] [(Value.ref (505 : Nat)), (Value.type "object")] (504 : Nat) (Str.ofString "Order") Bool.true [] [] Bool.false (Option.none) Bool.false)) (List.toArray [(Option.none), (Option.none), (Option.some (Value.str (Str.ofString "Order") (750 : Nat))), (Option.some (Value.str (Str.ofString "Order") (758 : Nat))), (Option.some (Value.builtin "object.__new__")), (Option.some (Value.bool Bool.true))]))) (
List.cons ((nat_lit 506), (Obj.mk (Value.type "getset_descriptor") (Option.none) (Data.fields (List.toArray [(Value.str (Str.ofString "__dict__") (905 : Nat)), (Value.ref (505 : Nat)), (Value.builtin "function.__dict__"), (Value.builtin "function.__dict__#set")])) (List.toArray []))) (
List.cons ((nat_lit 507), (Obj.mk (Value.type "getset_descriptor") (Option.none) (Data.fields (List.toArray [(Value.str (Str.ofString "__weakref__") (907 : Nat)), (Value.ref (505 : Nat)), (Value.builtin "ExceptionGroup.__weakref__"), Value.none])) (List.toArray []))) (
List.cons ((nat_lit 510), (Obj.mk (Value.type "tuple") (Option.none) (Data.seq (List.toArray []) (0 : Nat)) (List.toArray []))) (
List.cons ((nat_lit 513), (Obj.mk (Value.type "code") (Option.none) (Data.fields (List.toArray [(Value.str (Str.ofString "number_picture") (912 : Nat)), (Value.str (Str.ofString "number_picture") (913 : Nat)), (Value.str (Str.ofString "/claim/cut.py") (914 : Nat)), (Value.int (417 : Int) (0 : Nat)), (Value.int (2 : Int) (0 : Nat)), (Value.int (0 : Int) (0 : Nat)), (Value.int (0 : Int) (0 : Nat)), (Value.int (3 : Int) (0 : Nat)), (Value.ref (510 : Nat)), (Value.bool Bool.true), (Value.int (181 : Int) (0 : Nat)), (Value.ref (511 : Nat)), Value.none, Value.none, Value.none, (Value.ref (512 : Nat)), (Value.int (915 : Int) (0 : Nat)), (Value.int (417 : Int) (0 : Nat)), (Value.str (Str.ofString "/claim/cut.py") (916 : Nat))])) (List.toArray []))) (
List.cons ((nat_lit 514), (Obj.mk (Value.type "function") (Option.none) (Data.func (FuncData.mk (Str.ofString "number_picture") (Str.ofString "number_picture") aP514 (FuncBody.stmts aB514) aS514 (3 : Nat) [] Value.none Value.none Value.none (Value.str (Str.ofString "ledgerspeak.pictures") (595 : Nat)) (Option.none) (Value.ref (513 : Nat)) Value.none (0 : Nat))) (List.toArray []))) (
List.cons ((nat_lit 515), (Obj.mk (Value.type "tuple") (Option.none) (Data.seq (List.toArray []) (0 : Nat)) (List.toArray []))) (
List.cons ((nat_lit 518), (Obj.mk (Value.type "code") (Option.none) (Data.fields (List.toArray [(Value.str (Str.ofString "text_category") (918 : Nat)), (Value.str (Str.ofString "text_category") (919 : Nat)), (Value.str (Str.ofString "/claim/cut.py") (920 : Nat)), (Value.int (427 : Int) (0 : Nat)), (Value.int (1 : Int) (0 : Nat)), (Value.int (0 : Int) (0 : Nat)), (Value.int (0 : Int) (0 : Nat)), (Value.int (3 : Int) (0 : Nat)), (Value.ref (515 : Nat)), (Value.bool Bool.true), (Value.int (181 : Int) (0 : Nat)), (Value.ref (516 : Nat)), Value.none, Value.none, Value.none, (Value.ref (517 : Nat)), (Value.int (921 : Int) (0 : Nat)), (Value.int (427 : Int) (0 : Nat)), (Value.str (Str.ofString "/claim/cut.py") (922 : Nat))])) (List.toArray []))) (
List.cons ((nat_lit 519), (Obj.mk (Value.type "function") (Option.none) (Data.func (FuncData.mk (Str.ofString "text_category") (Str.ofString "text_category") aP519 (FuncBody.stmts aB519) aS519 (3 : Nat) [] Value.none Value.none Value.none (Value.str (Str.ofString "ledgerspeak.pictures") (595 : Nat)) (Option.none) (Value.ref (518 : Nat)) Value.none (0 : Nat))) (List.toArray []))) (
List.cons ((nat_lit 520), (Obj.mk (Value.type "tuple") (Option.none) (Data.seq (List.toArray []) (0 : Nat)) (List.toArray []))) (
List.cons ((nat_lit 522), (Obj.mk (Value.type "tuple") (Option.none) (Data.seq (List.toArray [(Value.str (Str.ofString "text") (927 : Nat)), (Value.str (Str.ofString "signs") (928 : Nat)), (Value.str (Str.ofString "one") (929 : Nat)), (Value.str (Str.ofString "symbols") (930 : Nat))]) (0 : Nat)) (List.toArray []))) (
List.cons ((nat_lit 523), (Obj.mk (Value.type "tuple") (Option.none) (Data.seq (List.toArray []) (0 : Nat)) (List.toArray []))) (
List.cons ((nat_lit 525), (Obj.mk (Value.type "code") (Option.none) (Data.fields (List.toArray [(Value.str (Str.ofString "text_picture") (924 : Nat)), (Value.str (Str.ofString "text_picture") (925 : Nat)), (Value.str (Str.ofString "/claim/cut.py") (926 : Nat)), (Value.int (432 : Int) (0 : Nat)), (Value.int (2 : Int) (0 : Nat)), (Value.int (0 : Int) (0 : Nat)), (Value.int (0 : Int) (0 : Nat)), (Value.int (3 : Int) (0 : Nat)), (Value.ref (520 : Nat)), (Value.bool Bool.true), (Value.int (181 : Int) (0 : Nat)), (Value.ref (521 : Nat)), Value.none, (Value.ref (522 : Nat)), (Value.ref (523 : Nat)), (Value.ref (524 : Nat)), (Value.int (931 : Int) (0 : Nat)), (Value.int (432 : Int) (0 : Nat)), (Value.str (Str.ofString "/claim/cut.py") (932 : Nat))])) (List.toArray []))) (
List.cons ((nat_lit 526), (Obj.mk (Value.type "function") (Option.none) (Data.func (FuncData.mk (Str.ofString "text_picture") (Str.ofString "text_picture") aP526 (FuncBody.stmts aB526) aS526 (3 : Nat) [] Value.none Value.none Value.none (Value.str (Str.ofString "ledgerspeak.pictures") (595 : Nat)) (Option.none) (Value.ref (525 : Nat)) Value.none (0 : Nat))) (List.toArray []))) (
List.cons ((nat_lit 527), (Obj.mk (Value.type "tuple") (Option.none) (Data.seq (List.toArray []) (0 : Nat)) (List.toArray []))) (
List.cons ((nat_lit 530), (Obj.mk (Value.type "code") (Option.none) (Data.fields (List.toArray [(Value.str (Str.ofString "read_picture") (934 : Nat)), (Value.str (Str.ofString "read_picture") (935 : Nat)), (Value.str (Str.ofString "/claim/cut.py") (936 : Nat)), (Value.int (440 : Int) (0 : Nat)), (Value.int (1 : Int) (0 : Nat)), (Value.int (0 : Int) (0 : Nat)), (Value.int (0 : Int) (0 : Nat)), (Value.int (3 : Int) (0 : Nat)), (Value.ref (527 : Nat)), (Value.bool Bool.true), (Value.int (181 : Int) (0 : Nat)), (Value.ref (528 : Nat)), Value.none, Value.none, Value.none, (Value.ref (529 : Nat)), (Value.int (937 : Int) (0 : Nat)), (Value.int (440 : Int) (0 : Nat)), (Value.str (Str.ofString "/claim/cut.py") (938 : Nat))])) (List.toArray []))) (
List.cons ((nat_lit 531), (Obj.mk (Value.type "function") (Option.none) (Data.func (FuncData.mk (Str.ofString "read_picture") (Str.ofString "read_picture") aP531 (FuncBody.stmts aB531) aS531 (3 : Nat) [] Value.none Value.none Value.none (Value.str (Str.ofString "ledgerspeak.pictures") (595 : Nat)) (Option.none) (Value.ref (530 : Nat)) Value.none (0 : Nat))) (List.toArray []))) (
List.cons ((nat_lit 532), (Obj.mk (Value.type "tuple") (Option.none) (Data.seq (List.toArray []) (0 : Nat)) (List.toArray []))) (
List.cons ((nat_lit 534), (Obj.mk (Value.type "tuple") (Option.none) (Data.seq (List.toArray [(Value.str (Str.ofString "rows") (945 : Nat))]) (0 : Nat)) (List.toArray []))) (
List.cons ((nat_lit 535), (Obj.mk (Value.type "tuple") (Option.none) (Data.seq (List.toArray []) (0 : Nat)) (List.toArray []))) (
List.cons ((nat_lit 537), (Obj.mk (Value.type "code") (Option.none) (Data.fields (List.toArray [(Value.str (Str.ofString "_law_pictures") (942 : Nat)), (Value.str (Str.ofString "_law_pictures") (943 : Nat)), (Value.str (Str.ofString "/claim/cut.py") (944 : Nat)), (Value.int (449 : Int) (0 : Nat)), (Value.int (0 : Int) (0 : Nat)), (Value.int (0 : Int) (0 : Nat)), (Value.int (0 : Int) (0 : Nat)), (Value.int (3 : Int) (0 : Nat)), (Value.ref (532 : Nat)), (Value.bool Bool.true), (Value.int (181 : Int) (0 : Nat)), (Value.ref (533 : Nat)), Value.none, (Value.ref (534 : Nat)), (Value.ref (535 : Nat)), (Value.ref (536 : Nat)), (Value.int (946 : Int) (0 : Nat)), (Value.int (449 : Int) (0 : Nat)), (Value.str (Str.ofString "/claim/cut.py") (947 : Nat))])) (List.toArray []))) (
List.cons ((nat_lit 538), (Obj.mk (Value.type "function") (Option.none) (Data.func (FuncData.mk (Str.ofString "_law_pictures") (Str.ofString "_law_pictures") aP538 (FuncBody.stmts aB538) aS538 (3 : Nat) [] Value.none Value.none Value.none (Value.str (Str.ofString "law_pb0273_01") (940 : Nat)) (Option.none) (Value.ref (537 : Nat)) Value.none (0 : Nat))) (List.toArray []))) (
List.cons ((nat_lit 539), (Obj.mk (Value.type "tuple") (Option.none) (Data.seq (List.toArray []) (0 : Nat)) (List.toArray []))) (
List.cons ((nat_lit 541), (Obj.mk (Value.type "tuple") (Option.none) (Data.seq (List.toArray [(Value.str (Str.ofString "units") (952 : Nat)), (Value.str (Str.ofString "scale") (953 : Nat)), (Value.str (Str.ofString "row") (954 : Nat)), (Value.str (Str.ofString "top") (955 : Nat)), (Value.str (Str.ofString "bottom") (956 : Nat)), (Value.str (Str.ofString "found") (957 : Nat))]) (0 : Nat)) (List.toArray []))) (
List.cons ((nat_lit 542), (Obj.mk (Value.type "tuple") (Option.none) (Data.seq (List.toArray []) (0 : Nat)) (List.toArray []))) (
List.cons ((nat_lit 544), (Obj.mk (Value.type "code") (Option.none) (Data.fields (List.toArray [(Value.str (Str.ofString "_law_left") (949 : Nat)), (Value.str (Str.ofString "_law_left") (950 : Nat)), (Value.str (Str.ofString "/claim/cut.py") (951 : Nat)), (Value.int (452 : Int) (0 : Nat)), (Value.int (3 : Int) (0 : Nat)), (Value.int (0 : Int) (0 : Nat)), (Value.int (0 : Int) (0 : Nat)), (Value.int (3 : Int) (0 : Nat)), (Value.ref (539 : Nat)), (Value.bool Bool.true), (Value.int (181 : Int) (0 : Nat)), (Value.ref (540 : Nat)), Value.none, (Value.ref (541 : Nat)), (Value.ref (542 : Nat)), (Value.ref (543 : Nat)), (Value.int (958 : Int) (0 : Nat)), (Value.int (452 : Int) (0 : Nat)), (Value.str (Str.ofString "/claim/cut.py") (959 : Nat))])) (List.toArray []))) (
List.cons ((nat_lit 545), (Obj.mk (Value.type "function") (Option.none) (Data.func (FuncData.mk (Str.ofString "_law_left") (Str.ofString "_law_left") aP545 (FuncBody.stmts aB545) aS545 (3 : Nat) [] Value.none Value.none Value.none (Value.str (Str.ofString "law_pb0273_01") (940 : Nat)) (Option.none) (Value.ref (544 : Nat)) Value.none (0 : Nat))) (List.toArray []))) (
List.cons ((nat_lit 546), (Obj.mk (Value.type "tuple") (Option.none) (Data.seq (List.toArray []) (0 : Nat)) (List.toArray []))) (
List.cons ((nat_lit 548), (Obj.mk (Value.type "tuple") (Option.none) (Data.seq (List.toArray [(Value.str (Str.ofString "units") (964 : Nat)), (Value.str (Str.ofString "scale") (965 : Nat))]) (0 : Nat)) (List.toArray []))) (
List.cons ((nat_lit 549), (Obj.mk (Value.type "tuple") (Option.none) (Data.seq (List.toArray []) (0 : Nat)) (List.toArray []))) (
List.cons ((nat_lit 551), (Obj.mk (Value.type "code") (Option.none) (Data.fields (List.toArray [(Value.str (Str.ofString "_law_decimal") (961 : Nat)), (Value.str (Str.ofString "_law_decimal") (962 : Nat)), (Value.str (Str.ofString "/claim/cut.py") (963 : Nat)), (Value.int (460 : Int) (0 : Nat)), (Value.int (2 : Int) (0 : Nat)), (Value.int (0 : Int) (0 : Nat)), (Value.int (0 : Int) (0 : Nat)), (Value.int (3 : Int) (0 : Nat)), (Value.ref (546 : Nat)), (Value.bool Bool.true), (Value.int (181 : Int) (0 : Nat)), (Value.ref (547 : Nat)), Value.none, (Value.ref (548 : Nat)), (Value.ref (549 : Nat)), (Value.ref (550 : Nat)), (Value.int (966 : Int) (0 : Nat)), (Value.int (460 : Int) (0 : Nat)), (Value.str (Str.ofString "/claim/cut.py") (967 : Nat))])) (List.toArray []))) (
List.cons ((nat_lit 552), (Obj.mk (Value.type "function") (Option.none) (Data.func (FuncData.mk (Str.ofString "_law_decimal") (Str.ofString "_law_decimal") aP552 (FuncBody.stmts aB552) aS552 (3 : Nat) [] Value.none Value.none Value.none (Value.str (Str.ofString "law_pb0273_01") (940 : Nat)) (Option.none) (Value.ref (551 : Nat)) Value.none (0 : Nat))) (List.toArray []))) (
List.cons ((nat_lit 553), (Obj.mk (Value.type "tuple") (Option.none) (Data.seq (List.toArray []) (0 : Nat)) (List.toArray []))) (
List.cons ((nat_lit 555), (Obj.mk (Value.type "tuple") (Option.none) (Data.seq (List.toArray [(Value.str (Str.ofString "shape") (972 : Nat)), (Value.str (Str.ofString "row") (973 : Nat)), (Value.str (Str.ofString "units") (974 : Nat)), (Value.str (Str.ofString "scale") (975 : Nat)), (Value.str (Str.ofString "octets") (976 : Nat)), (Value.str (Str.ofString "due") (977 : Nat))]) (0 : Nat)) (List.toArray []))) (
List.cons ((nat_lit 556), (Obj.mk (Value.type "tuple") (Option.none) (Data.seq (List.toArray []) (0 : Nat)) (List.toArray []))) (
List.cons ((nat_lit 558), (Obj.mk (Value.type "code") (Option.none) (Data.fields (List.toArray [(Value.str (Str.ofString "_law_right") (969 : Nat)), (Value.str (Str.ofString "_law_right") (970 : Nat)), (Value.str (Str.ofString "/claim/cut.py") (971 : Nat)), (Value.int (466 : Int) (0 : Nat)), (Value.int (4 : Int) (0 : Nat)), (Value.int (0 : Int) (0 : Nat)), (Value.int (0 : Int) (0 : Nat)), (Value.int (3 : Int) (0 : Nat)), (Value.ref (553 : Nat)), (Value.bool Bool.true), (Value.int (181 : Int) (0 : Nat)), (Value.ref (554 : Nat)), Value.none, (Value.ref (555 : Nat)), (Value.ref (556 : Nat)), (Value.ref (557 : Nat)), (Value.int (978 : Int) (0 : Nat)), (Value.int (466 : Int) (0 : Nat)), (Value.str (Str.ofString "/claim/cut.py") (979 : Nat))])) (List.toArray []))) (
List.cons ((nat_lit 559), (Obj.mk (Value.type "function") (Option.none) (Data.func (FuncData.mk (Str.ofString "_law_right") (Str.ofString "_law_right") aP559 (FuncBody.stmts aB559) aS559 (3 : Nat) [] Value.none Value.none Value.none (Value.str (Str.ofString "law_pb0273_01") (940 : Nat)) (Option.none) (Value.ref (558 : Nat)) Value.none (0 : Nat))) (List.toArray []))) (
List.cons ((nat_lit 560), (Obj.mk (Value.type "tuple") (Option.none) (Data.seq (List.toArray []) (0 : Nat)) (List.toArray []))) (
List.cons ((nat_lit 563), (Obj.mk (Value.type "code") (Option.none) (Data.fields (List.toArray [(Value.str (Str.ofString "law") (981 : Nat)), (Value.str (Str.ofString "law") (982 : Nat)), (Value.str (Str.ofString "/claim/cut.py") (983 : Nat)), (Value.int (474 : Int) (0 : Nat)), (Value.int (1 : Int) (0 : Nat)), (Value.int (0 : Int) (0 : Nat)), (Value.int (0 : Int) (0 : Nat)), (Value.int (3 : Int) (0 : Nat)), (Value.ref (560 : Nat)), (Value.bool Bool.true), (Value.int (181 : Int) (0 : Nat)), (Value.ref (561 : Nat)), Value.none, Value.none, Value.none, (Value.ref (562 : Nat)), (Value.int (984 : Int) (0 : Nat)), (Value.int (474 : Int) (0 : Nat)), (Value.str (Str.ofString "/claim/cut.py") (985 : Nat))])) (List.toArray []))) (
List.cons ((nat_lit 564), (Obj.mk (Value.type "function") (Option.none) (Data.func (FuncData.mk (Str.ofString "law") (Str.ofString "law") aP564 (FuncBody.stmts aB564) aS564 (3 : Nat) [] Value.none Value.none Value.none (Value.str (Str.ofString "law_pb0273_01") (940 : Nat)) (Option.none) (Value.ref (563 : Nat)) Value.none (0 : Nat))) (List.toArray []))) (
List.nil)))))))))))))))))))))))))))))))))))))))))))))))))))))))))))))))))))))))))))))))))))))))))))))))))))))))))))))))))))))))))))))))))))))))))))))))))))))))))))))))))))))))))))))))))))))))))))))))))))))))))))))))))))))))))))))))))))))))))))))))))))))))))))))))))))))))))))))))))))))))))))))))))))))))))))))))))))))))))))))))))))))))))))))))))))))))))))))))) : Frag) = y → Frag) ?y ?h
  case f => exact fun y _ => y
  case h => delta aP21 aB21 aS21 aP29 aB29 aS29 aP36 aB36 aS36 aP52 aB52 aS52 aP59 aB59 aS59 aP116 aB116 aS116 aP123 aB123 aS123 aP130 aB130 aS130 aP144 aB144 aS144 aP151 aB151 aS151 aP158 aB158 aS158 aP165 aB165 aS165 aP172 aB172 aS172 aP179 aB179 aS179 aP184 aB184 aS184 aP192 aB192 aS192 aP199 aB199 aS199 aP206 aB206 aS206 aP211 aB211 aS211 aP216 aB216 aS216 aP223 aB223 aS223 aP230 aB230 aS230 aP237 aB237 aS237 aP244 aB244 aS244 aP249 aB249 aS249 aP256 aB256 aS256 aP263 aB263 aS263 aP270 aB270 aS270 aP277 aB277 aS277 aP284 aB284 aS284 aP291 aB291 aS291 aP305 aB305 aS305 aP312 aB312 aS312 aP317 aB317 aS317 aP338 aB338 aS338 aP345 aB345 aS345 aP359 aB359 aS359 aP364 aB364 aS364 aP371 aB371 aS371 aP378 aB378 aS378 aP383 aB383 aS383 aP397 aB397 aS397 aP404 aB404 aS404 aP411 aB411 aS411 aP418 aB418 aS418 aP425 aB425 aS425 aP432 aB432 aS432 aP439 aB439 aS439 aP446 aB446 aS446 aP453 aB453 aS453 aP460 aB460 aS460 aP467 aB467 aS467 aP474 aB474 aS474 aP481 aB481 aS481 aP488 aB488 aS488 aP495 aB495 aS495 aP502 aB502 aS502 aP514 aB514 aS514 aP519 aB519 aS519 aP526 aB526 aS526 aP531 aB531 aS531 aP538 aB538 aS538 aP545 aB545 aS545 aP552 aB552 aS552 aP559 aB559 aS559 aP564 aB564 aS564; exact rfl
noncomputable abbrev asK : List Addr := List.cons (nat_lit 2) (List.cons (nat_lit 3) (List.cons (nat_lit 15) (List.cons (nat_lit 17) (List.cons (nat_lit 18) (List.cons (nat_lit 20) (List.cons (nat_lit 21) (List.cons (nat_lit 22) (List.cons (nat_lit 23) (List.cons (nat_lit 25) (List.cons (nat_lit 26) (List.cons (nat_lit 28) (List.cons (nat_lit 29) (List.cons (nat_lit 30) (List.cons (nat_lit 32) (List.cons (nat_lit 33) (List.cons (nat_lit 35) (List.cons (nat_lit 36) (List.cons (nat_lit 37) (List.cons (nat_lit 44) (List.cons (nat_lit 45) (List.cons (nat_lit 46) (List.cons (nat_lit 48) (List.cons (nat_lit 49) (List.cons (nat_lit 51) (List.cons (nat_lit 52) (List.cons (nat_lit 53) (List.cons (nat_lit 55) (List.cons (nat_lit 56) (List.cons (nat_lit 58) (List.cons (nat_lit 59) (List.cons (nat_lit 60) (List.cons (nat_lit 61) (List.cons (nat_lit 62) (List.cons (nat_lit 63) (List.cons (nat_lit 66) (List.cons (nat_lit 73) (List.cons (nat_lit 74) (List.cons (nat_lit 75) (List.cons (nat_lit 78) (List.cons (nat_lit 85) (List.cons (nat_lit 86) (List.cons (nat_lit 87) (List.cons (nat_lit 90) (List.cons (nat_lit 97) (List.cons (nat_lit 98) (List.cons (nat_lit 99) (List.cons (nat_lit 109) (List.cons (nat_lit 110) (List.cons (nat_lit 112) (List.cons (nat_lit 113) (List.cons (nat_lit 115) (List.cons (nat_lit 116) (List.cons (nat_lit 117) (List.cons (nat_lit 119) (List.cons (nat_lit 120) (List.cons (nat_lit 122) (List.cons (nat_lit 123) (List.cons (nat_lit 124) (List.cons (nat_lit 126) (List.cons (nat_lit 127) (List.cons (nat_lit 129) (List.cons (nat_lit 130) (List.cons (nat_lit 131) (List.cons (nat_lit 132) (List.cons (nat_lit 133) (List.cons (nat_lit 134) (List.cons (nat_lit 135) (List.cons (nat_lit 138) (List.cons (nat_lit 140) (List.cons (nat_lit 141) (List.cons (nat_lit 143) (List.cons (nat_lit 144) (List.cons (nat_lit 145) (List.cons (nat_lit 147) (List.cons (nat_lit 148) (List.cons (nat_lit 150) (List.cons (nat_lit 151) (List.cons (nat_lit 152) (List.cons (nat_lit 154) (List.cons (nat_lit 155) (List.cons (nat_lit 157) (List.cons (nat_lit 158) (List.cons (nat_lit 159) (List.cons (nat_lit 161) (List.cons (nat_lit 162) (List.cons (nat_lit 164) (List.cons (nat_lit 165) (List.cons (nat_lit 166) (List.cons (nat_lit 168) (List.cons (nat_lit 169) (List.cons (nat_lit 171) (List.cons (nat_lit 172) (List.cons (nat_lit 173) (List.cons (nat_lit 175) (List.cons (nat_lit 176) (List.cons (nat_lit 178) (List.cons (nat_lit 179) (List.cons (nat_lit 180) (List.cons (nat_lit 183) (List.cons (nat_lit 184) (List.cons (nat_lit 185) (List.cons (nat_lit 186) (List.cons (nat_lit 188) (List.cons (nat_lit 189) (List.cons (nat_lit 191) (List.cons (nat_lit 192) (List.cons (nat_lit 193) (List.cons (nat_lit 195) (List.cons (nat_lit 196) (List.cons (nat_lit 198) (List.cons (nat_lit 199) (List.cons (nat_lit 200) (List.cons (nat_lit 202) (List.cons (nat_lit 203) (List.cons (nat_lit 205) (List.cons (nat_lit 206) (List.cons (nat_lit 207) (List.cons (nat_lit 210) (List.cons (nat_lit 211) (List.cons (nat_lit 212) (List.cons (nat_lit 215) (List.cons (nat_lit 216) (List.cons (nat_lit 217) (List.cons (nat_lit 219) (List.cons (nat_lit 220) (List.cons (nat_lit 222) (List.cons (nat_lit 223) (List.cons (nat_lit 224) (List.cons (nat_lit 226) (List.cons (nat_lit 227) (List.cons (nat_lit 229) (List.cons (nat_lit 230) (List.cons (nat_lit 231) (List.cons (nat_lit 233) (List.cons (nat_lit 234) (List.cons (nat_lit 236) (List.cons (nat_lit 237) (List.cons (nat_lit 238) (List.cons (nat_lit 240) (List.cons (nat_lit 241) (List.cons (nat_lit 243) (List.cons (nat_lit 244) (List.cons (nat_lit 245) (List.cons (nat_lit 248) (List.cons (nat_lit 249) (List.cons (nat_lit 250) (List.cons (nat_lit 252) (List.cons (nat_lit 253) (List.cons (nat_lit 255) (List.cons (nat_lit 256) (List.cons (nat_lit 257) (List.cons (nat_lit 259) (List.cons (nat_lit 260) (List.cons (nat_lit 262) (List.cons (nat_lit 263) (List.cons (nat_lit 264) (List.cons (nat_lit 266) (List.cons (nat_lit 267) (List.cons (nat_lit 269) (List.cons (nat_lit 270) (List.cons (nat_lit 271) (List.cons (nat_lit 273) (List.cons (nat_lit 274) (List.cons (nat_lit 276) (List.cons (nat_lit 277) (List.cons (nat_lit 278) (List.cons (nat_lit 280) (List.cons (nat_lit 281) (List.cons (nat_lit 283) (List.cons (nat_lit 284) (List.cons (nat_lit 285) (List.cons (nat_lit 287) (List.cons (nat_lit 288) (List.cons (nat_lit 290) (List.cons (nat_lit 291) (List.cons (nat_lit 299) (List.cons (nat_lit 301) (List.cons (nat_lit 302) (List.cons (nat_lit 304) (List.cons (nat_lit 305) (List.cons (nat_lit 306) (List.cons (nat_lit 308) (List.cons (nat_lit 309) (List.cons (nat_lit 311) (List.cons (nat_lit 312) (List.cons (nat_lit 313) (List.cons (nat_lit 316) (List.cons (nat_lit 317) (List.cons (nat_lit 318) (List.cons (nat_lit 319) (List.cons (nat_lit 320) (List.cons (nat_lit 321) (List.cons (nat_lit 322) (List.cons (nat_lit 332) (List.cons (nat_lit 334) (List.cons (nat_lit 335) (List.cons (nat_lit 337) (List.cons (nat_lit 338) (List.cons (nat_lit 339) (List.cons (nat_lit 341) (List.cons (nat_lit 342) (List.cons (nat_lit 344) (List.cons (nat_lit 345) (List.cons (nat_lit 346) (List.cons (nat_lit 347) (List.cons (nat_lit 348) (List.cons (nat_lit 349) (List.cons (nat_lit 350) (List.cons (nat_lit 353) (List.cons (nat_lit 355) (List.cons (nat_lit 356) (List.cons (nat_lit 358) (List.cons (nat_lit 359) (List.cons (nat_lit 360) (List.cons (nat_lit 363) (List.cons (nat_lit 364) (List.cons (nat_lit 365) (List.cons (nat_lit 367) (List.cons (nat_lit 368) (List.cons (nat_lit 370) (List.cons (nat_lit 371) (List.cons (nat_lit 372) (List.cons (nat_lit 374) (List.cons (nat_lit 375) (List.cons (nat_lit 377) (List.cons (nat_lit 378) (List.cons (nat_lit 379) (List.cons (nat_lit 382) (List.cons (nat_lit 383) (List.cons (nat_lit 391) (List.cons (nat_lit 393) (List.cons (nat_lit 394) (List.cons (nat_lit 396) (List.cons (nat_lit 397) (List.cons (nat_lit 398) (List.cons (nat_lit 400) (List.cons (nat_lit 401) (List.cons (nat_lit 403) (List.cons (nat_lit 404) (List.cons (nat_lit 405) (List.cons (nat_lit 407) (List.cons (nat_lit 408) (List.cons (nat_lit 410) (List.cons (nat_lit 411) (List.cons (nat_lit 412) (List.cons (nat_lit 414) (List.cons (nat_lit 415) (List.cons (nat_lit 417) (List.cons (nat_lit 418) (List.cons (nat_lit 419) (List.cons (nat_lit 421) (List.cons (nat_lit 422) (List.cons (nat_lit 424) (List.cons (nat_lit 425) (List.cons (nat_lit 426) (List.cons (nat_lit 428) (List.cons (nat_lit 429) (List.cons (nat_lit 431) (List.cons (nat_lit 432) (List.cons (nat_lit 433) (List.cons (nat_lit 435) (List.cons (nat_lit 436) (List.cons (nat_lit 438) (List.cons (nat_lit 439) (List.cons (nat_lit 440) (List.cons (nat_lit 442) (List.cons (nat_lit 443) (List.cons (nat_lit 445) (List.cons (nat_lit 446) (List.cons (nat_lit 447) (List.cons (nat_lit 449) (List.cons (nat_lit 450) (List.cons (nat_lit 452) (List.cons (nat_lit 453) (List.cons (nat_lit 454) (List.cons (nat_lit 456) (List.cons (nat_lit 457) (List.cons (nat_lit 459) (List.cons (nat_lit 460) (List.cons (nat_lit 461) (List.cons (nat_lit 463) (List.cons (nat_lit 464) (List.cons (nat_lit 466) (List.cons (nat_lit 467) (List.cons (nat_lit 468) (List.cons (nat_lit 470) (List.cons (nat_lit 471) (List.cons (nat_lit 473) (List.cons (nat_lit 474) (List.cons (nat_lit 475) (List.cons (nat_lit 477) (List.cons (nat_lit 478) (List.cons (nat_lit 480) (List.cons (nat_lit 481) (List.cons (nat_lit 482) (List.cons (nat_lit 484) (List.cons (nat_lit 485) (List.cons (nat_lit 487) (List.cons (nat_lit 488) (List.cons (nat_lit 489) (List.cons (nat_lit 491) (List.cons (nat_lit 492) (List.cons (nat_lit 494) (List.cons (nat_lit 495) (List.cons (nat_lit 496) (List.cons (nat_lit 498) (List.cons (nat_lit 499) (List.cons (nat_lit 501) (List.cons (nat_lit 502) (List.cons (nat_lit 503) (List.cons (nat_lit 504) (List.cons (nat_lit 505) (List.cons (nat_lit 506) (List.cons (nat_lit 507) (List.cons (nat_lit 510) (List.cons (nat_lit 513) (List.cons (nat_lit 514) (List.cons (nat_lit 515) (List.cons (nat_lit 518) (List.cons (nat_lit 519) (List.cons (nat_lit 520) (List.cons (nat_lit 522) (List.cons (nat_lit 523) (List.cons (nat_lit 525) (List.cons (nat_lit 526) (List.cons (nat_lit 527) (List.cons (nat_lit 530) (List.cons (nat_lit 531) (List.cons (nat_lit 532) (List.cons (nat_lit 534) (List.cons (nat_lit 535) (List.cons (nat_lit 537) (List.cons (nat_lit 538) (List.cons (nat_lit 539) (List.cons (nat_lit 541) (List.cons (nat_lit 542) (List.cons (nat_lit 544) (List.cons (nat_lit 545) (List.cons (nat_lit 546) (List.cons (nat_lit 548) (List.cons (nat_lit 549) (List.cons (nat_lit 551) (List.cons (nat_lit 552) (List.cons (nat_lit 553) (List.cons (nat_lit 555) (List.cons (nat_lit 556) (List.cons (nat_lit 558) (List.cons (nat_lit 559) (List.cons (nat_lit 560) (List.cons (nat_lit 563) (List.cons (nat_lit 564) (List.nil))))))))))))))))))))))))))))))))))))))))))))))))))))))))))))))))))))))))))))))))))))))))))))))))))))))))))))))))))))))))))))))))))))))))))))))))))))))))))))))))))))))))))))))))))))))))))))))))))))))))))))))))))))))))))))))))))))))))))))))))))))))))))))))))))))))))))))))))))))))))))))))))))))))))))))))))))))))))))))))))))))))))))))))))))))))))))))))))
noncomputable def aT1 : Stmt := by
  refine (?f : (y : Stmt) → stAt PB 1 = y → Stmt) ?y ?h
  case f => exact fun y _ => y
  case h => walk_at "MyLit"
noncomputable def aT3 : Stmt := by
  refine (?f : (y : Stmt) → stAt PB 3 = y → Stmt) ?y ?h
  case f => exact fun y _ => y
  case h => walk_at "MyLit"
noncomputable def aT5 : Stmt := by
  refine (?f : (y : Stmt) → stAt PB 5 = y → Stmt) ?y ?h
  case f => exact fun y _ => y
  case h => walk_at "MyLit"
noncomputable def aT6 : Stmt := by
  refine (?f : (y : Stmt) → stAt PB 6 = y → Stmt) ?y ?h
  case f => exact fun y _ => y
  case h => walk_at "MyLit"
noncomputable def aT7 : Stmt := by
  refine (?f : (y : Stmt) → stAt PB 7 = y → Stmt) ?y ?h
  case f => exact fun y _ => y
  case h => walk_at "MyLit"
noncomputable def aT8 : Stmt := by
  refine (?f : (y : Stmt) → stAt PB 8 = y → Stmt) ?y ?h
  case f => exact fun y _ => y
  case h => walk_at "MyLit"
noncomputable def aT10 : Stmt := by
  refine (?f : (y : Stmt) → stAt PB 10 = y → Stmt) ?y ?h
  case f => exact fun y _ => y
  case h => walk_at "MyLit"
noncomputable def aT11 : Stmt := by
  refine (?f : (y : Stmt) → stAt PB 11 = y → Stmt) ?y ?h
  case f => exact fun y _ => y
  case h => walk_at "MyLit"
noncomputable def aT12 : Stmt := by
  refine (?f : (y : Stmt) → stAt PB 12 = y → Stmt) ?y ?h
  case f => exact fun y _ => y
  case h => walk_at "MyLit"
noncomputable def aT13 : Stmt := by
  refine (?f : (y : Stmt) → stAt PB 13 = y → Stmt) ?y ?h
  case f => exact fun y _ => y
  case h => walk_at "MyLit"
noncomputable def aT14 : Stmt := by
  refine (?f : (y : Stmt) → stAt PB 14 = y → Stmt) ?y ?h
  case f => exact fun y _ => y
  case h => walk_at "MyLit"
noncomputable def aT15 : Stmt := by
  refine (?f : (y : Stmt) → stAt PB 15 = y → Stmt) ?y ?h
  case f => exact fun y _ => y
  case h => walk_at "MyLit"
noncomputable def aT16 : Stmt := by
  refine (?f : (y : Stmt) → stAt PB 16 = y → Stmt) ?y ?h
  case f => exact fun y _ => y
  case h => walk_at "MyLit"
noncomputable def aT17 : Stmt := by
  refine (?f : (y : Stmt) → stAt PB 17 = y → Stmt) ?y ?h
  case f => exact fun y _ => y
  case h => walk_at "MyLit"
noncomputable def aT18 : Stmt := by
  refine (?f : (y : Stmt) → stAt PB 18 = y → Stmt) ?y ?h
  case f => exact fun y _ => y
  case h => walk_at "MyLit"
noncomputable def aT19 : Stmt := by
  refine (?f : (y : Stmt) → stAt PB 19 = y → Stmt) ?y ?h
  case f => exact fun y _ => y
  case h => walk_at "MyLit"
noncomputable def aT22 : Stmt := by
  refine (?f : (y : Stmt) → stAt PB 22 = y → Stmt) ?y ?h
  case f => exact fun y _ => y
  case h => walk_at "MyLit"
noncomputable def aT23 : Stmt := by
  refine (?f : (y : Stmt) → stAt PB 23 = y → Stmt) ?y ?h
  case f => exact fun y _ => y
  case h => walk_at "MyLit"
noncomputable def aT24 : Stmt := by
  refine (?f : (y : Stmt) → stAt PB 24 = y → Stmt) ?y ?h
  case f => exact fun y _ => y
  case h => walk_at "MyLit"
noncomputable def aT25 : Stmt := by
  refine (?f : (y : Stmt) → stAt PB 25 = y → Stmt) ?y ?h
  case f => exact fun y _ => y
  case h => walk_at "MyLit"
noncomputable def aT26 : Stmt := by
  refine (?f : (y : Stmt) → stAt PB 26 = y → Stmt) ?y ?h
  case f => exact fun y _ => y
  case h => walk_at "MyLit"
noncomputable def aT27 : Stmt := by
  refine (?f : (y : Stmt) → stAt PB 27 = y → Stmt) ?y ?h
  case f => exact fun y _ => y
  case h => walk_at "MyLit"
noncomputable def aT28 : Stmt := by
  refine (?f : (y : Stmt) → stAt PB 28 = y → Stmt) ?y ?h
  case f => exact fun y _ => y
  case h => walk_at "MyLit"
noncomputable def aT29 : Stmt := by
  refine (?f : (y : Stmt) → stAt PB 29 = y → Stmt) ?y ?h
  case f => exact fun y _ => y
  case h => walk_at "MyLit"
noncomputable def aT30 : Stmt := by
  refine (?f : (y : Stmt) → stAt PB 30 = y → Stmt) ?y ?h
  case f => exact fun y _ => y
  case h => walk_at "MyLit"
noncomputable def aT31 : Stmt := by
  refine (?f : (y : Stmt) → stAt PB 31 = y → Stmt) ?y ?h
  case f => exact fun y _ => y
  case h => walk_at "MyLit"
noncomputable def aT32 : Stmt := by
  refine (?f : (y : Stmt) → stAt PB 32 = y → Stmt) ?y ?h
  case f => exact fun y _ => y
  case h => walk_at "MyLit"
noncomputable def aT33 : Stmt := by
  refine (?f : (y : Stmt) → stAt PB 33 = y → Stmt) ?y ?h
  case f => exact fun y _ => y
  case h => walk_at "MyLit"
noncomputable def aT34 : Stmt := by
  refine (?f : (y : Stmt) → stAt PB 34 = y → Stmt) ?y ?h
  case f => exact fun y _ => y
  case h => walk_at "MyLit"
noncomputable def aT35 : Stmt := by
  refine (?f : (y : Stmt) → stAt PB 35 = y → Stmt) ?y ?h
  case f => exact fun y _ => y
  case h => walk_at "MyLit"
noncomputable def aT36 : Stmt := by
  refine (?f : (y : Stmt) → stAt PB 36 = y → Stmt) ?y ?h
  case f => exact fun y _ => y
  case h => walk_at "MyLit"
noncomputable def aT37 : Stmt := by
  refine (?f : (y : Stmt) → stAt PB 37 = y → Stmt) ?y ?h
  case f => exact fun y _ => y
  case h => walk_at "MyLit"
noncomputable def aT38 : Stmt := by
  refine (?f : (y : Stmt) → stAt PB 38 = y → Stmt) ?y ?h
  case f => exact fun y _ => y
  case h => walk_at "MyLit"
noncomputable def aT39 : Stmt := by
  refine (?f : (y : Stmt) → stAt PB 39 = y → Stmt) ?y ?h
  case f => exact fun y _ => y
  case h => walk_at "MyLit"
noncomputable def aT40 : Stmt := by
  refine (?f : (y : Stmt) → stAt PB 40 = y → Stmt) ?y ?h
  case f => exact fun y _ => y
  case h => walk_at "MyLit"
noncomputable def aT41 : Stmt := by
  refine (?f : (y : Stmt) → stAt PB 41 = y → Stmt) ?y ?h
  case f => exact fun y _ => y
  case h => walk_at "MyLit"
noncomputable def aT42 : Stmt := by
  refine (?f : (y : Stmt) → stAt PB 42 = y → Stmt) ?y ?h
  case f => exact fun y _ => y
  case h => walk_at "MyLit"
noncomputable def aT43 : Stmt := by
  refine (?f : (y : Stmt) → stAt PB 43 = y → Stmt) ?y ?h
  case f => exact fun y _ => y
  case h => walk_at "MyLit"
noncomputable def aT44 : Stmt := by
  refine (?f : (y : Stmt) → stAt PB 44 = y → Stmt) ?y ?h
  case f => exact fun y _ => y
  case h => walk_at "MyLit"
noncomputable def aT46 : Stmt := by
  refine (?f : (y : Stmt) → stAt PB 46 = y → Stmt) ?y ?h
  case f => exact fun y _ => y
  case h => walk_at "MyLit"
noncomputable def aT47 : Stmt := by
  refine (?f : (y : Stmt) → stAt PB 47 = y → Stmt) ?y ?h
  case f => exact fun y _ => y
  case h => walk_at "MyLit"
noncomputable def aT48 : Stmt := by
  refine (?f : (y : Stmt) → stAt PB 48 = y → Stmt) ?y ?h
  case f => exact fun y _ => y
  case h => walk_at "MyLit"
noncomputable def aT49 : Stmt := by
  refine (?f : (y : Stmt) → stAt PB 49 = y → Stmt) ?y ?h
  case f => exact fun y _ => y
  case h => walk_at "MyLit"
noncomputable def aT50 : Stmt := by
  refine (?f : (y : Stmt) → stAt PB 50 = y → Stmt) ?y ?h
  case f => exact fun y _ => y
  case h => walk_at "MyLit"
noncomputable def aT51 : Stmt := by
  refine (?f : (y : Stmt) → stAt PB 51 = y → Stmt) ?y ?h
  case f => exact fun y _ => y
  case h => walk_at "MyLit"
noncomputable def aT52 : Stmt := by
  refine (?f : (y : Stmt) → stAt PB 52 = y → Stmt) ?y ?h
  case f => exact fun y _ => y
  case h => walk_at "MyLit"
noncomputable def aT53 : Stmt := by
  refine (?f : (y : Stmt) → stAt PB 53 = y → Stmt) ?y ?h
  case f => exact fun y _ => y
  case h => walk_at "MyLit"
noncomputable def aT54 : Stmt := by
  refine (?f : (y : Stmt) → stAt PB 54 = y → Stmt) ?y ?h
  case f => exact fun y _ => y
  case h => walk_at "MyLit"
noncomputable def aT55 : Stmt := by
  refine (?f : (y : Stmt) → stAt PB 55 = y → Stmt) ?y ?h
  case f => exact fun y _ => y
  case h => walk_at "MyLit"
noncomputable def aT56 : Stmt := by
  refine (?f : (y : Stmt) → stAt PB 56 = y → Stmt) ?y ?h
  case f => exact fun y _ => y
  case h => walk_at "MyLit"
noncomputable def aT57 : Stmt := by
  refine (?f : (y : Stmt) → stAt PB 57 = y → Stmt) ?y ?h
  case f => exact fun y _ => y
  case h => walk_at "MyLit"
noncomputable def aT58 : Stmt := by
  refine (?f : (y : Stmt) → stAt PB 58 = y → Stmt) ?y ?h
  case f => exact fun y _ => y
  case h => walk_at "MyLit"
noncomputable def aT59 : Stmt := by
  refine (?f : (y : Stmt) → stAt PB 59 = y → Stmt) ?y ?h
  case f => exact fun y _ => y
  case h => walk_at "MyLit"
noncomputable def aT60 : Stmt := by
  refine (?f : (y : Stmt) → stAt PB 60 = y → Stmt) ?y ?h
  case f => exact fun y _ => y
  case h => walk_at "MyLit"
noncomputable def aT61 : Stmt := by
  refine (?f : (y : Stmt) → stAt PB 61 = y → Stmt) ?y ?h
  case f => exact fun y _ => y
  case h => walk_at "MyLit"
noncomputable def aT62 : Stmt := by
  refine (?f : (y : Stmt) → stAt PB 62 = y → Stmt) ?y ?h
  case f => exact fun y _ => y
  case h => walk_at "MyLit"
noncomputable def aT63 : Stmt := by
  refine (?f : (y : Stmt) → stAt PB 63 = y → Stmt) ?y ?h
  case f => exact fun y _ => y
  case h => walk_at "MyLit"
noncomputable def aT64 : Stmt := by
  refine (?f : (y : Stmt) → stAt PB 64 = y → Stmt) ?y ?h
  case f => exact fun y _ => y
  case h => walk_at "MyLit"
noncomputable def aT65 : Stmt := by
  refine (?f : (y : Stmt) → stAt PB 65 = y → Stmt) ?y ?h
  case f => exact fun y _ => y
  case h => walk_at "MyLit"
noncomputable def aT66 : Stmt := by
  refine (?f : (y : Stmt) → stAt PB 66 = y → Stmt) ?y ?h
  case f => exact fun y _ => y
  case h => walk_at "MyLit"
noncomputable def aT68 : Stmt := by
  refine (?f : (y : Stmt) → stAt PB 68 = y → Stmt) ?y ?h
  case f => exact fun y _ => y
  case h => walk_at "MyLit"
noncomputable def aT69 : Stmt := by
  refine (?f : (y : Stmt) → stAt PB 69 = y → Stmt) ?y ?h
  case f => exact fun y _ => y
  case h => walk_at "MyLit"
noncomputable def aT70 : Stmt := by
  refine (?f : (y : Stmt) → stAt PB 70 = y → Stmt) ?y ?h
  case f => exact fun y _ => y
  case h => walk_at "MyLit"
noncomputable def aT71 : Stmt := by
  refine (?f : (y : Stmt) → stAt PB 71 = y → Stmt) ?y ?h
  case f => exact fun y _ => y
  case h => walk_at "MyLit"
noncomputable def aT72 : Stmt := by
  refine (?f : (y : Stmt) → stAt PB 72 = y → Stmt) ?y ?h
  case f => exact fun y _ => y
  case h => walk_at "MyLit"
noncomputable def hdV : Program := by
  refine (?f : (y : Program) → ({ PySem.Challenge.rw_pb0273_01.row.toRowW.prog with main := { (PySem.Challenge.rw_pb0273_01.row.toRowW.prog).main with body := [aT1, aT3, aT5, aT6, aT7, aT8, aT10, aT11, aT12, aT13, aT14, aT15, aT16, aT17, aT18, aT19, aT22, aT23, aT24, aT25, aT26, aT27, aT28, aT29, aT30, aT31, aT32, aT33, aT34, aT35, aT36, aT37, aT38, aT39, aT40, aT41, aT42, aT43, aT44, aT46, aT47, aT48, aT49, aT50, aT51, aT52, aT53, aT54, aT55, aT56, aT57, aT58, aT59, aT60, aT61, aT62, aT63, aT64, aT65, aT66, aT68, aT69, aT70, aT71, aT72] } } : Program) = y → Program) ?y ?h
  case f => exact fun y _ => y
  case h => delta aT1 aT3 aT5 aT6 aT7 aT8 aT10 aT11 aT12 aT13 aT14 aT15 aT16 aT17 aT18 aT19 aT22 aT23 aT24 aT25 aT26 aT27 aT28 aT29 aT30 aT31 aT32 aT33 aT34 aT35 aT36 aT37 aT38 aT39 aT40 aT41 aT42 aT43 aT44 aT46 aT47 aT48 aT49 aT50 aT51 aT52 aT53 aT54 aT55 aT56 aT57 aT58 aT59 aT60 aT61 aT62 aT63 aT64 aT65 aT66 aT68 aT69 aT70 aT71 aT72; exact rfl
noncomputable abbrev lawAt : Stmt := stAt PB 72
noncomputable abbrev LW : List Str := looseW hdV [Str.ofString "decimal", Str.ofString "LedgerError", Str.ofString "shape_of"]
noncomputable abbrev PR : Program := PySem.Challenge.rw_pb0273_01.row.prog

/-- what a call of the text's def at f does: it ends, returns v, keeps what stood, and lays nw -/
noncomputable def Does (w : World) (mean : ExcName → Option Value) (mg mb : Str → Option Value) (f : Addr) (deep : Nat) (vs : List Value) (N0 : List (Addr × Obj)) (post : List (Addr × Obj) → Value → Prop) : Prop :=
  ∀ (dp un : Nat) (gd : Option (List Code)) (cn : Str) (cs : Scope) (a : Addr) (ccd : Value) (cl : List (Str × Addr)) (outer : List Env) (A₀ : Around) (base h₀ : Heap) (L : Addr) (m : Str → Option Value) (s : Shared) (Q E : Value → Shared → Prop),
    Below A₀ base outer h₀ → Fr h₀ L s.heap m → (hdK w.params).In h₀ → News h₀ L s.heap N0 → Top hdV LW mean mg mb h₀ → cs.kind = .function →
    dp + deep < recursionLimit → un + 8 * deep < cLine →
    (∀ v h' tk' nw, InElt s.heap h' → News h₀ L h' nw → post nw v → Q v { s with heap := h', toks := tk' }) →
    wpAny (model PR w) (ktrTop dp un gd cn cs L a ccd cl outer) (call (.ref f) vs) Q E s

/-- a proposition in a box: a proof can be run as simp's side goal -/
noncomputable def Box (P : Prop) : Prop := P
theorem Box.of {P : Prop} (h : P) : Box P = True := eq_true h
theorem unBox {P : Prop} (h : Box P) : P := h
theorem inBox {P : Prop} (h : P) : P := h
theorem Does.use {w : World} {mean : ExcName → Option Value} {mg mb : Str → Option Value} {f : Addr} {deep : Nat} {vs : List Value} {N0 news : List (Addr × Obj)} {post : List (Addr × Obj) → Value → Prop}
    {dp un : Nat} {gd : Option (List Code)} {cn : Str} {cs : Scope} {a : Addr} {ccd : Value} {cl : List (Str × Addr)} {outer : List Env} {A₀ : Around} {base h₀ : Heap} {L : Addr} {m : Str → Option Value} {s : Shared} {Q E : Value → Shared → Prop}
    (B : Below A₀ base outer h₀) (F : Fr h₀ L s.heap m) (X : (hdK w.params).In h₀) (N : News h₀ L s.heap news) (T : Top hdV LW mean mg mb h₀) (hk : cs.kind = .function)
    (C : Does w mean mg mb f deep vs N0 post) (hs : ∀ p ∈ N0, p ∈ news) (hdp : dp + deep < recursionLimit) (hu : un + 8 * deep < cLine)
    (h : ∀ v h' tk' nw, InElt s.heap h' → Fr h₀ L h' m → News h₀ L h' (nw ++ news) → post nw v → Q v { s with heap := h', toks := tk' }) :
    wpAny (model PR w) (ktrTop dp un gd cn cs L a ccd cl outer) (call (.ref f) vs) Q E s :=
  C _ _ _ _ _ _ _ _ _ _ _ _ _ _ _ _ _ B F X (cb_drop N hs) T hk hdp hu fun v h' tk' nw e n p => h v h' tk' nw e ⟨F.ns.keeps e, fun b o q => e b o (F.keep b o q), F.above⟩
    (fun p hp => (List.mem_append.mp hp).elim (n p) fun hp => ⟨e _ _ (N p hp).1, (N p hp).2⟩) p
theorem newsTake {h₀ h : Heap} {L : Addr} {l : List (Addr × Obj)} (n : Nat) (N : News h₀ L h l) : News h₀ L h (l.take n) := fun p hp => N p (List.mem_of_mem_take hp)
/-- a shape's tokens, its fields that differ -/
structure ShT where
  (k0 k1 k2 k3 k4 k5 k6 k7 k8 k9 k10 tc ts tu tg td tl : Tok)
structure Sh where
  size : Int
  pic : Addr
  digits : Int
  scale : Int
  signed : Bool
/-- a shape's fields, as __init__ lays them -/
noncomputable def shapeEs (w : World) (T : ShT) (us : Str) (S : Sh) : List DictEntry :=
  [⟨PyData.keyHash w.params (Str.ofString "category"), .str (Str.ofString "category") T.k0, .str (Str.ofString "numeric") T.tc⟩,
   ⟨PyData.keyHash w.params (Str.ofString "size"), .str (Str.ofString "size") T.k1, .int S.size T.ts⟩,
   ⟨PyData.keyHash w.params (Str.ofString "picture"), .str (Str.ofString "picture") T.k2, .ref S.pic⟩,
   ⟨PyData.keyHash w.params (Str.ofString "usage"), .str (Str.ofString "usage") T.k3, .str us T.tu⟩,
   ⟨PyData.keyHash w.params (Str.ofString "sign"), .str (Str.ofString "sign") T.k4, .str (Str.ofString "trailing") T.tg⟩,
   ⟨PyData.keyHash w.params (Str.ofString "is_separate"), .str (Str.ofString "is_separate") T.k5, .bool false⟩,
   ⟨PyData.keyHash w.params (Str.ofString "is_justified"), .str (Str.ofString "is_justified") T.k6, .bool false⟩,
   ⟨PyData.keyHash w.params (Str.ofString "is_blank_zero"), .str (Str.ofString "is_blank_zero") T.k7, .bool false⟩,
   ⟨PyData.keyHash w.params (Str.ofString "digits"), .str (Str.ofString "digits") T.k8, .int S.digits T.td⟩,
   ⟨PyData.keyHash w.params (Str.ofString "scale"), .str (Str.ofString "scale") T.k9, .int S.scale T.tl⟩,
   ⟨PyData.keyHash w.params (Str.ofString "is_signed"), .str (Str.ofString "is_signed") T.k10, .bool S.signed⟩]
noncomputable abbrev tupOf (vs : List Value) (n : Nat) : Obj := { cls := .type "tuple", data := .seq vs.toArray n }
theorem bitsOk {a : Int} (h : a.natAbs < 2 ^ 300) : Builtin.Int.intBits a ≤ 2 ^ 20 := by
  unfold Builtin.Int.intBits
  by_cases q : a = 0
  · subst q; decide
  · have : a.natAbs.log2 < 300 := (Nat.log2_lt (by omega)).mpr h
    first
    | omega
    | (split <;> omega)
theorem newsNe {h₀ h : Heap} {L a b : Addr} {o o' : Obj} {news : List (Addr × Obj)} (N : News h₀ L h news) (ha : (a, o) ∈ news) (hb : (b, o') ∈ news) (hne : o.cls ≠ o'.cls) : @Ne Nat a b := fun e => by
  subst e
  exact hne (congrArg Obj.cls (Option.some.inj ((N.get ha).symm.trans (N.get hb))))
/-- a state, its counter forgotten -/
theorem stGen {prog : Program} {w : World} {A : Around} {α : Type} {t : Sem α} {Q : α → Shared → Prop} {E : Value → Shared → Prop} {h : Heap} {g : Array GenState} {d : Drawn} {T : Nat} {o : OsState} (s : Shared) (hg : g = s.gens) (hd : d = s.drawn) (ho : o = s.os)
    (H : ∀ tk, wpAny (model prog w) A t Q E { s with heap := h, toks := tk }) : wpAny (model prog w) A t Q E ⟨h, g, d, T, o⟩ := by
  subst hg hd ho
  exact H T
/-- what a post asks, under another name -/
structure QLe {α : Type} (Q Q' : α → Shared → Prop) : Prop where
  le : ∀ v s, Q v s → Q' v s
/-- behind a statement: the rest -/
noncomputable def contQ (prog : Program) (w : World) (A : Around) (rest : List Stmt) (env : Env) (Q : Flow → Shared → Prop) (E : Value → Shared → Prop) : Flow → Shared → Prop
  | .next, s => wpAny (model prog w) A (execs rest env) Q E s
  | f, s => Q f s
section
variable {prog : Program} {w : World} {A : Around} {st : Stmt} {rest : List Stmt} {env : Env} {Q Q' : Flow → Shared → Prop} {E : Value → Shared → Prop} {s : Shared}
theorem contQ_cons (h : wpAny (model prog w) A (exec st env) (contQ prog w A rest env Q E) E s) : wpAny (model prog w) A (execs (st :: rest) env) Q E s :=
  wpAny_execs_cons (wpAny_mono h (fun f s' p => by cases f <;> exact p) fun _ _ e => e)
theorem consQ {Q0 : Flow → Shared → Prop} (_ : QLe Q0 Q) (h : ∀ Q', QLe (contQ prog w A rest env Q E) Q' → wpAny (model prog w) A (exec st env) Q' E s) : wpAny (model prog w) A (execs (st :: rest) env) Q E s := contQ_cons (h _ ⟨fun _ _ p => p⟩)
theorem consQQ (h : ∀ Q1, QLe Q Q1 → ∀ Q', QLe (contQ prog w A rest env Q1 E) Q' → wpAny (model prog w) A (exec st env) Q' E s) : wpAny (model prog w) A (execs (st :: rest) env) Q E s := contQ_cons (h _ ⟨fun _ _ p => p⟩ _ ⟨fun _ _ p => p⟩)
theorem qNext (h : QLe (contQ prog w A rest env Q E) Q') (p : wpAny (model prog w) A (execs rest env) Q E s) : Q' .next s := h.le _ _ p
theorem qRet {v : Value} (h : QLe (contQ prog w A rest env Q E) Q') (p : Q (.ret v) s) : Q' (.ret v) s := h.le _ _ p
theorem qBrk (h : QLe (contQ prog w A rest env Q E) Q') (p : Q .brk s) : Q' .brk s := h.le _ _ p
theorem qCont (h : QLe (contQ prog w A rest env Q E) Q') (p : Q .cont s) : Q' .cont s := h.le _ _ p
end
theorem qGen {α : Type} {Q Q' : α → Shared → Prop} {v : α} {s : Shared} (h : QLe Q Q') (p : Q v s) : Q' v s := h.le _ _ p
/-- nothing stored: the ways joined -/
structure StayP (h₀ : Heap) (L : Addr) (m : Str → Option Value) (news : List (Addr × Obj)) (s : Shared) (f : Flow) (s₂ : Shared) : Prop where
  is : f = .next ∧ ∃ h' tk, s₂ = { s with heap := h', toks := tk } ∧ Fr h₀ L h' m ∧ News h₀ L h' news
theorem StayP.mk' {h₀ h' : Heap} {L : Addr} {m : Str → Option Value} {news : List (Addr × Obj)} {s s₂ : Shared} {tk : Nat} (e : s₂ = { s with heap := h', toks := tk }) (F : Fr h₀ L h' m) (N : News h₀ L h' news) : StayP h₀ L m news s .next s₂ := ⟨rfl, h', tk, e, F, N⟩
theorem joinStay {prog : Program} {w : World} {A : Around} {E : Value → Shared → Prop} {s : Shared} {t : Sem Flow} {Q : Flow → Shared → Prop} {h₀ : Heap} {L : Addr} {m : Str → Option Value} {news : List (Addr × Obj)} (_F : Fr h₀ L s.heap m) (_N : News h₀ L s.heap news)
    (h : wpAny (model prog w) A t (StayP h₀ L m news s) E s) (go : ∀ h' tk, Fr h₀ L h' m → News h₀ L h' news → Q .next { s with heap := h', toks := tk }) : wpAny (model prog w) A t Q E s :=
  wpAny_mono h (fun f s₂ p => by
    obtain ⟨rfl, h', tk, rfl, F, N⟩ := p.is
    exact go h' tk F N) fun _ _ e => e
/-- a name stored, or as it stood: the ways joined -/
structure StP (h₀ : Heap) (L : Addr) (m : Str → Option Value) (news : List (Addr × Obj)) (x : Str) (P : Value → Prop) (s : Shared) (f : Flow) (s₂ : Shared) : Prop where
  is : f = .next ∧ ∃ v h' tk, s₂ = { s with heap := h', toks := tk } ∧ P v ∧ Fr h₀ L h' (fun y => if y = x then some v else m y) ∧ News h₀ L h' news
theorem StP.store {h₀ h' : Heap} {L : Addr} {m : Str → Option Value} {news : List (Addr × Obj)} {x : Str} {P : Value → Prop} {s s₂ : Shared} {v : Value} {tk : Nat} (e : s₂ = { s with heap := h', toks := tk }) (p : P v) (F : Fr h₀ L h' (fun y => if y = x then some v else m y)) (N : News h₀ L h' news) : StP h₀ L m news x P s .next s₂ := ⟨rfl, v, h', tk, e, p, F, N⟩
theorem StP.stay {h₀ h' : Heap} {L : Addr} {m : Str → Option Value} {news : List (Addr × Obj)} {x : Str} {P : Value → Prop} {s s₂ : Shared} {v : Value} {tk : Nat} (e : s₂ = { s with heap := h', toks := tk }) (p : P v) (hm : m x = some v) (F : Fr h₀ L h' m) (N : News h₀ L h' news) : StP h₀ L m news x P s .next s₂ := by
  refine ⟨rfl, v, h', tk, e, p, ?_, N⟩
  have em : (fun y => if y = x then some v else m y) = m := by
    funext y
    by_cases hy : y = x
    · rw [if_pos hy, hy, hm]
    · rw [if_neg hy]
  rw [em]; exact F
theorem joinStore {prog : Program} {w : World} {A : Around} {E : Value → Shared → Prop} {s : Shared} {t : Sem Flow} {Q : Flow → Shared → Prop} {h₀ : Heap} {L : Addr} {m : Str → Option Value} {news : List (Addr × Obj)} {x : Str} {P : Value → Prop} (_F : Fr h₀ L s.heap m) (_N : News h₀ L s.heap news)
    (h : wpAny (model prog w) A t (StP h₀ L m news x P s) E s) (go : ∀ v h' tk, P v → Fr h₀ L h' (fun y => if y = x then some v else m y) → News h₀ L h' news → Q .next { s with heap := h', toks := tk }) : wpAny (model prog w) A t Q E s :=
  wpAny_mono h (fun f s₂ p => by
    obtain ⟨rfl, v, h', tk, rfl, pv, F, N⟩ := p.is
    exact go v h' tk pv F N) fun _ _ e => e
theorem fill_all : (PySem.Challenge.rw_pb0273_01 = PySem.Challenge.rw_pb0273_01) ∧ (hdK = hdK) := by
  k_fill
  exact ⟨rfl, rfl⟩
local macro_rules | `(tactic| walk_at $s:str) => `(tactic| k_extra $s)
local macro_rules | `(tactic| k_enter) => `(tactic| walk_at "MyKEnter")
local macro_rules | `(tactic| mul_fits) => `(tactic| assumption)
local macro_rules | `(tactic| k_steps) => `(tactic| repeat' (k_extra "MyAll"))
local macro_rules | `(tactic| size_fits) => `(tactic| walk_at "MySize")
local macro_rules | `(tactic| seqcomp_size) => `(tactic| walk_at "MySeqSize")
local macro_rules | `(tactic| kmk_sum) => `(tactic| walk_at "MySum")
local macro_rules | `(tactic| k_sub) => `(tactic| walk_at "MyKSub")
section
theorem kw_10_cutq : True := by
  k_with_none
  k_with "MyEnter" => (refine wpAny_call ?_; k_dflt (refine' code_defG ?k1 ?k2 ?k3 ?k4 ?k5 ?kA ?kF ?kK ?k6 ?k7 ?k8 ?k9 ?kB ?_ ?c2 ?c3 ?c4 ?c5; (case kA => exact rfl); (case kF => exact rfl); (case kK => assumption); (case k1 => k_asm); (case k2 => k_asm); (case k3 => k_asm); (case k4 => k_asm); (case k5 => k_asm); (case k6 => k_is); (case k7 => k_is); (case k8 => ktr_room); (case k9 => first | exact BindsTo.of_eq rfl | exact binds_K (by k_in) rfl (by k_is) rfl rfl rfl); (case c5 => decide); (case kB => exact locs rfl); (case c2 => exact rfl); (case c3 => exact rfl); (case c4 => exact rfl); k_whole; intro g' L' h' FG' F' N' B' X' T' kG'; (try dsimp only); (try k_lift B'); (try k_fold)))
  k_with "binaryOp FloorDiv int int" => (k_here; (with_reducible refine floordiv_int ?d0 ?_ (Or.inl ?d1)); (case d0 => first | with_reducible assumption | decide | omega); (case d1 => first | with_reducible assumption | exact PyProof.noPylong_of_log2 (by decide +kernel)))
  k_with "MyKEnter" => ((fail_if_success k_inElt); (refine' code_defC ?k1 ?k2 ?k3 ?k4 ?k5 ?kA ?kF ?kK ?k6 ?k7 ?k8 ?k9 ?kB ?kD ?_ ?c2 ?c3 ?c4; (case kA => exact rfl); (case kF => exact rfl); (case kK => exact rfl); (case k1 => k_asm); (case k2 => k_asm); (case k3 => k_asm); (case k4 => k_asm); (case k5 => k_asm); (case k6 => k_is); (case k7 => k_is); (case k8 => ktr_room); (case k9 => first | exact BindsTo.of_eq rfl | exact binds_K (by k_in) rfl (by k_is) rfl rfl rfl | fail "k_enter: no rule for these arguments"); (case kB => exact rfl); (case kD => decide +kernel); (case c2 => exact rfl); (case c3 => exact rfl); (case c4 => exact rfl); k_whole; intro g' L' h' tk' cells' FG' F' N' Y' B' X' T' l1; (try k_lt l1); k_cells Y'; (try simp only [List.cons_append, List.nil_append] at N'); (try dsimp only); (try k_lift B'); (try k_fold)))
  k_with "MyKEnter" => ((fail_if_success k_inElt); (refine' code_def ?k1 ?k2 ?k3 ?k4 ?k5 ?kA ?kF ?kK ?k6 ?k7 ?k8 ?k9 ?kB ?_ ?c2 ?c3 ?c4 ?c5; (case kA => exact rfl); (case kF => exact rfl); (case kK => exact rfl); (case k1 => k_asm); (case k2 => k_asm); (case k3 => k_asm); (case k4 => k_asm); (case k5 => k_asm); (case k6 => k_is); (case k7 => k_is); (case k8 => ktr_room); (case k9 => first | exact BindsTo.of_eq rfl | exact binds_K (by k_in) rfl (by k_is) rfl rfl rfl | fail "k_enter: no rule for these arguments"); (case c5 => decide); (case kB => exact locs rfl); (case c2 => exact rfl); (case c3 => exact rfl); (case c4 => exact rfl); k_whole; intro g' L' h' FG' F' N' B' X' T'; (try dsimp only); (try k_lift B'); (try k_fold)))
  k_with "MyPre" => first | with_reducible assumption | omega | with_reducible decide | fail "MyPre"
  k_with "execs cons" => ((fail_if_success k_inElt); first | (with_reducible refine consQ (by with_reducible assumption) (fun Q9 hQ9 => ?_)) | (with_reducible refine consQQ (fun Q8 hQ8 Q9 hQ9 => ?_)))
  k_with "execs cons" => (k_made; walk_at "execs cons")
  k_with "execs cons" => ((with_reducible show wpAny _ _ _ _ _ (Shared.mk _ _ _ (@HAdd.hAdd Nat Nat Nat _ _ _) _)); refine stGen s rfl rfl rfl (fun tk9 => ?_); (try dsimp only))
  k_with "MyQ" => ((fail_if_success (with_reducible show wpAny _ _ _ _ _ _)); (with_reducible first | refine qNext (by with_reducible assumption) ?_ | refine qRet (by with_reducible assumption) ?_ | refine qBrk (by with_reducible assumption) ?_ | refine qCont (by with_reducible assumption) ?_ | refine qGen (by with_reducible assumption) ?_); (try dsimp only))
  k_with "MyAll" => first | k_extra "MyQ" | (k_unfold; (try dsimp only)) | (k_end; kc_close) | walk1 | (dsimp only; walk1) | (leave1; walk_say "STEP leave1"; (try dsimp only)) | fail "no step"
  k_with "eval Name" => (k_here; (with_reducible show wpAny _ _ (eval (Expr.Name _ _) (envOf _ _ _ _ _)) _ _ _); k_dflt (refine' ld ?k1 ?k2 ?_ rfl (by kernel_rfl!) (by kernel_rfl!); (case k1 => k_asm); (case k2 => exact rfl); k_whole))
  k_with "MySize" => ((with_reducible show List.length (List.nil) ≤ _); exact Nat.zero_le _)
  k_with "MyKSub" => (intro p77 hp77; (repeat (first | with_reducible exact hp77 | with_reducible refine List.mem_cons_of_mem _ ?_)); done)
  trivial
theorem noPyl {x y : Int} (h0 : 0 < y) (h : y < 10 ^ 60) : Builtin.divisionGoesByPylong x y = false := by
  refine PyProof.noPylong_of_log2 ?_
  have h1 : y.natAbs < 10 ^ 60 := by omega
  have h2 : (10 : Nat) ^ 60 < 2 ^ 9000 := by decide +kernel
  exact (Nat.log2_lt (by omega)).mpr (Nat.lt_trans h1 h2)
section
variable {w : World} {mean : ExcName → Option Value} {mg mb : Str → Option Value}
theorem cut_quotient_does (top bottom : Int) (t u : Tok) (hb : 0 < bottom) (hb2 : bottom < 10 ^ 60) :
    Does w mean mg mb 21 1 [.int top t, .int bottom u] [] (fun nw v => nw = [] ∧ ∃ t', v = .int (Int.tdiv top bottom) t') := by
  refine unBox ?_
  simp (zetaDelta := true) (disch := (k_dflt (
    refine inBox ?_
    have hA : (if bottom < 0 then -bottom else bottom) ≠ 0 := by split <;> omega
    have hB : ∀ x, Builtin.divisionGoesByPylong x (if bottom < 0 then -bottom else bottom) = false := fun x => by
      rw [if_neg (by omega)]; exact noPyl hb hb2
    have hB := hB (if top < 0 then -top else top)
    have e1 : (if bottom < 0 then -bottom else bottom) = bottom := if_neg (by omega)
    have e2 : (decide (bottom < 0)) = false := decide_eq_false (by omega)
    have p1 : top < 0 → -((-top).fdiv bottom) = top.tdiv bottom := fun h => by
      rw [Int.fdiv_eq_tdiv_of_nonneg (by omega) (by omega), Int.neg_tdiv, Int.neg_neg]
    have p2 : ¬ top < 0 → top.fdiv bottom = top.tdiv bottom := fun h => Int.fdiv_eq_tdiv_of_nonneg (by omega) (by omega)
    intro dp un gd cn cs a ccd cl outer A₀ base h₀ L m s Q E B F X N T hk hd hu hret
    have cE := InElt.start s.heap
    walk_at "MyEnter"
    k_steps
    all_goals refine hret _ _ _ _ (by assumption) (by assumption) ⟨rfl, _, congrArg (Value.int · _) ?_⟩
    · rename (_ = true) => hc
      rw [e2] at hc
      have h : top < 0 := by simpa using hc
      rw [e1, if_pos h]; exact p1 h
    · rename (_ = false) => hc
      rw [e2] at hc
      have h : ¬ top < 0 := by simpa using hc
      rw [e1, if_neg h]; exact p2 h
    ))) only [↓Box.of]
end
end
section
theorem kw_11_figs : True := by
  k_with_none
  k_with "MyEnter" => (refine wpAny_call ?_; k_dflt (refine' code_defG ?k1 ?k2 ?k3 ?k4 ?k5 ?kA ?kF ?kK ?k6 ?k7 ?k8 ?k9 ?kB ?_ ?c2 ?c3 ?c4 ?c5; (case kA => exact rfl); (case kF => exact rfl); (case kK => assumption); (case k1 => k_asm); (case k2 => k_asm); (case k3 => k_asm); (case k4 => k_asm); (case k5 => k_asm); (case k6 => k_is); (case k7 => k_is); (case k8 => ktr_room); (case k9 => first | exact BindsTo.of_eq rfl | exact binds_K (by k_in) rfl (by k_is) rfl rfl rfl); (case c5 => decide); (case kB => exact locs rfl); (case c2 => exact rfl); (case c3 => exact rfl); (case c4 => exact rfl); k_whole; intro g' L' h' FG' F' N' B' X' T' kG'; (try dsimp only); (try k_lift B'); (try k_fold)))
  k_with "binaryOp FloorDiv int int" => (k_here; (with_reducible refine floordiv_int ?d0 ?_ (Or.inl ?d1)); (case d0 => first | with_reducible assumption | decide | omega); (case d1 => first | with_reducible assumption | exact PyProof.noPylong_of_log2 (by decide +kernel)))
  k_with "MyKEnter" => ((fail_if_success k_inElt); (refine' code_defC ?k1 ?k2 ?k3 ?k4 ?k5 ?kA ?kF ?kK ?k6 ?k7 ?k8 ?k9 ?kB ?kD ?_ ?c2 ?c3 ?c4; (case kA => exact rfl); (case kF => exact rfl); (case kK => exact rfl); (case k1 => k_asm); (case k2 => k_asm); (case k3 => k_asm); (case k4 => k_asm); (case k5 => k_asm); (case k6 => k_is); (case k7 => k_is); (case k8 => ktr_room); (case k9 => first | exact BindsTo.of_eq rfl | exact binds_K (by k_in) rfl (by k_is) rfl rfl rfl | fail "k_enter: no rule for these arguments"); (case kB => exact rfl); (case kD => decide +kernel); (case c2 => exact rfl); (case c3 => exact rfl); (case c4 => exact rfl); k_whole; intro g' L' h' tk' cells' FG' F' N' Y' B' X' T' l1; (try k_lt l1); k_cells Y'; (try simp only [List.cons_append, List.nil_append] at N'); (try dsimp only); (try k_lift B'); (try k_fold)))
  k_with "MyKEnter" => ((fail_if_success k_inElt); (refine' code_def ?k1 ?k2 ?k3 ?k4 ?k5 ?kA ?kF ?kK ?k6 ?k7 ?k8 ?k9 ?kB ?_ ?c2 ?c3 ?c4 ?c5; (case kA => exact rfl); (case kF => exact rfl); (case kK => exact rfl); (case k1 => k_asm); (case k2 => k_asm); (case k3 => k_asm); (case k4 => k_asm); (case k5 => k_asm); (case k6 => k_is); (case k7 => k_is); (case k8 => ktr_room); (case k9 => first | exact BindsTo.of_eq rfl | exact binds_K (by k_in) rfl (by k_is) rfl rfl rfl | fail "k_enter: no rule for these arguments"); (case c5 => decide); (case kB => exact locs rfl); (case c2 => exact rfl); (case c3 => exact rfl); (case c4 => exact rfl); k_whole; intro g' L' h' FG' F' N' B' X' T'; (try dsimp only); (try k_lift B'); (try k_fold)))
  k_with "MyPre" => first | with_reducible assumption | omega | with_reducible decide | fail "MyPre"
  k_with "execs cons" => ((fail_if_success k_inElt); first | (with_reducible refine consQ (by with_reducible assumption) (fun Q9 hQ9 => ?_)) | (with_reducible refine consQQ (fun Q8 hQ8 Q9 hQ9 => ?_)))
  k_with "execs cons" => (k_made; walk_at "execs cons")
  k_with "execs cons" => ((with_reducible show wpAny _ _ _ _ _ (Shared.mk _ _ _ (@HAdd.hAdd Nat Nat Nat _ _ _) _)); refine stGen s rfl rfl rfl (fun tk9 => ?_); (try dsimp only))
  k_with "MyQ" => ((fail_if_success (with_reducible show wpAny _ _ _ _ _ _)); (with_reducible first | refine qNext (by with_reducible assumption) ?_ | refine qRet (by with_reducible assumption) ?_ | refine qBrk (by with_reducible assumption) ?_ | refine qCont (by with_reducible assumption) ?_ | refine qGen (by with_reducible assumption) ?_); (try dsimp only))
  k_with "MyAll" => first | k_extra "MyQ" | (k_unfold; (try dsimp only)) | (k_end; kc_close) | walk1 | (dsimp only; walk1) | (leave1; walk_say "STEP leave1"; (try dsimp only)) | fail "no step"
  k_with "eval Name" => (k_here; (with_reducible show wpAny _ _ (eval (Expr.Name _ _) (envOf _ _ _ _ _)) _ _ _); k_dflt (refine' ld ?k1 ?k2 ?_ rfl (by kernel_rfl!) (by kernel_rfl!); (case k1 => k_asm); (case k2 => exact rfl); k_whole))
  k_with "MySize" => ((with_reducible show List.length (List.nil) ≤ _); exact Nat.zero_le _)
  k_with "MyKSub" => (intro p77 hp77; (repeat (first | with_reducible exact hp77 | with_reducible refine List.mem_cons_of_mem _ ?_)); done)
  trivial
/-- the last c figures of n to the base b, the last first -/
noncomputable def lowB (b n : Int) (c : Nat) : List Int := (List.range c).map fun i => n / b ^ i % b
noncomputable def figsB (b n : Int) (c : Nat) : List Int := (lowB b n c).reverse
noncomputable def figs (n : Int) (c : Nat) : List Int := figsB 10 n c
noncomputable def FigI (b n : Int) (pre : List Int) (rest : Int) (found : List Int) : Prop := rest = n / b ^ pre.length ∧ found = lowB b n pre.length
theorem lowB_length (b n : Int) (c : Nat) : (lowB b n c).length = c := by rw [lowB, List.length_map, List.length_range]
theorem figsB_length (b n : Int) (c : Nat) : (figsB b n c).length = c := by rw [figsB, List.length_reverse, lowB_length]
theorem figs_length (n : Int) (c : Nat) : (figs n c).length = c := figsB_length ..
theorem FigI.start {b n : Int} : FigI b n [] n [] := ⟨by simp, rfl⟩
theorem FigI.turn {b n : Int} {pre : List Int} {k rest : Int} {found : List Int} (hb : 0 ≤ b) (h : FigI b n pre rest found) : FigI b n (pre ++ [k]) (rest.fdiv b) (found ++ [rest.fmod b]) := by
  obtain ⟨rfl, rfl⟩ := h
  have e : (pre ++ [k]).length = pre.length + 1 := by simp
  refine ⟨?_, ?_⟩
  · rw [e, Int.fdiv_eq_ediv_of_nonneg _ hb, Int.pow_succ, Int.ediv_ediv_of_nonneg (Int.pow_nonneg hb)]
  · rw [e, lowB, lowB, List.range_succ, List.map_append, Int.fmod_eq_emod_of_nonneg _ hb]
    rfl
theorem FigI.length {b n : Int} {pre : List Int} {rest : Int} {found : List Int} {vs : List Value} (h : FigI b n pre rest found) (hi : IntsAre vs found) : vs.length = pre.length := by rw [hi.length, h.2, lowB_length]
theorem figsB_in {b n : Int} {c : Nat} (hb : 0 < b) : ∀ f ∈ figsB b n c, 0 ≤ f ∧ f < b := fun f hf => by
  rw [figsB, List.mem_reverse, lowB, List.mem_map] at hf
  obtain ⟨i, _, rfl⟩ := hf
  exact ⟨Int.emod_nonneg _ (by omega), Int.emod_lt_of_pos _ hb⟩
theorem figs_in {n : Int} {c : Nat} : ∀ f ∈ figs n c, 0 ≤ f ∧ f < 10 := figsB_in (by decide)
section
variable {w : World} {mean : ExcName → Option Value} {mg mb : Str → Option Value}
theorem figures_for_does (n c : Int) (t u : Tok) (hn : 0 ≤ n) (h0 : 0 ≤ c) (h1 : c ≤ 40) :
    Does w mean mg mb 206 1 [.int n t, .int c u] [] (fun nw v => ∃ r vs, nw = [(r, listOf (List.toArray vs) 0)] ∧ v = .ref r ∧ IntsAre vs (figs n c.toNat)) := by
  refine unBox ?_
  simp (zetaDelta := true) (disch := (k_dflt (
    refine inBox ?_
    intro dp un gd cn cs a ccd cl outer A₀ base h₀ L m s Q E B F X N T hk hd hu hret
    have cE := InElt.start s.heap
    walk_at "MyEnter"
    k_with "state" => first | exact FigI.start | exact FigI.turn (by decide) (by assumption)
    repeat ((fail_if_success (with_reducible show wpAny _ _ (pyIter _) _ _ _)); (first | k_extra "MyQ" | (k_unfold; (try dsimp only)) | walk1 | (dsimp only; walk1)))
    rename Fr _ _ _ _ => lF'
    rename News _ _ _ _ => lN'
    rename IsRange _ _ _ _ _ _ _ _ => rgX
    refine kst_range (σ := Int × Tok × List Value × List Int × Nat) (n := c.toNat) (fun c => [(_, _), (_, listOf (List.toArray c.2.2.1) c.2.2.2.2)]) (fun c => [(Str.ofString "rest", .int c.1 c.2.1)]) (fun c => IntsAre c.2.2.1 c.2.2.2.1) [] (fun pre c => FigI 10 n pre c.1 c.2.2.2.1) (n, t, [], [], 0) (by rfl) rgX ?hs ?hn lF' lN' ?hf ?hk ?hp ?turn ?done
    case hs => exact small_one (by decide) (by decide) (by omega) (by omega)
    case hn => exact (rangeSize_nat 0 c).trans (congrArg (fun x : Int => (x.toNat : Int)) (by omega))
    case hf => exact IntsAre.nil
    case hk => kst_all
    case hp => exact FigI.start
    case turn =>
      clear lF' lN'
      rintro ⟨rest, tr, vs, found, kk⟩ pre k tk u h1 tk1 own hk1 hlt hoff hfa hinv kFr kNews
      dsimp only [kstB] at kFr
      dsimp only at kNews hfa hinv
      have kMark := kstMark
      simp only [List.map_cons, List.map_nil] at hoff
      have hlv : vs.length = pre.length := hinv.length hfa
      (try k_fold)
      k_steps
    case done =>
      clear lF' lN'
      rintro ⟨rest, tr, vs, found, kk⟩ u h1 tk1 hfa hinv kFr kNews
      dsimp only [kstB] at kFr
      dsimp only at kNews hfa hinv
      have kMark := kstMark
      have hlv : vs.length = c.toNat := by rw [hinv.length hfa, rangeKs, List.length_map, List.length_range]
      (try k_fold)
      k_steps
      refine hret _ _ _ _ (by assumption) (newsTake 1 (by assumption)) ⟨_, _, rfl, rfl, ?_⟩
      rw [show figs n c.toNat = found.reverse by rw [hinv.2, figs, figsB, rangeKs, List.length_map, List.length_range]]
      assumption
    ))) only [↓Box.of]
end
end
section
theorem kw_12_kept : True := by
  k_with_none
  k_with "MyEnter" => (refine wpAny_call ?_; k_dflt (refine' code_defG ?k1 ?k2 ?k3 ?k4 ?k5 ?kA ?kF ?kK ?k6 ?k7 ?k8 ?k9 ?kB ?_ ?c2 ?c3 ?c4 ?c5; (case kA => exact rfl); (case kF => exact rfl); (case kK => assumption); (case k1 => k_asm); (case k2 => k_asm); (case k3 => k_asm); (case k4 => k_asm); (case k5 => k_asm); (case k6 => k_is); (case k7 => k_is); (case k8 => ktr_room); (case k9 => first | exact BindsTo.of_eq rfl | exact binds_K (by k_in) rfl (by k_is) rfl rfl rfl); (case c5 => decide); (case kB => exact locs rfl); (case c2 => exact rfl); (case c3 => exact rfl); (case c4 => exact rfl); k_whole; intro g' L' h' FG' F' N' B' X' T' kG'; (try dsimp only); (try k_lift B'); (try k_fold)))
  k_with "binaryOp FloorDiv int int" => (k_here; (with_reducible refine floordiv_int ?d0 ?_ (Or.inl ?d1)); (case d0 => first | with_reducible assumption | decide | omega); (case d1 => first | with_reducible assumption | exact PyProof.noPylong_of_log2 (by decide +kernel)))
  k_with "MyKEnter" => ((fail_if_success k_inElt); (refine' code_defC ?k1 ?k2 ?k3 ?k4 ?k5 ?kA ?kF ?kK ?k6 ?k7 ?k8 ?k9 ?kB ?kD ?_ ?c2 ?c3 ?c4; (case kA => exact rfl); (case kF => exact rfl); (case kK => exact rfl); (case k1 => k_asm); (case k2 => k_asm); (case k3 => k_asm); (case k4 => k_asm); (case k5 => k_asm); (case k6 => k_is); (case k7 => k_is); (case k8 => ktr_room); (case k9 => first | exact BindsTo.of_eq rfl | exact binds_K (by k_in) rfl (by k_is) rfl rfl rfl | fail "k_enter: no rule for these arguments"); (case kB => exact rfl); (case kD => decide +kernel); (case c2 => exact rfl); (case c3 => exact rfl); (case c4 => exact rfl); k_whole; intro g' L' h' tk' cells' FG' F' N' Y' B' X' T' l1; (try k_lt l1); k_cells Y'; (try simp only [List.cons_append, List.nil_append] at N'); (try dsimp only); (try k_lift B'); (try k_fold)))
  k_with "MyKEnter" => ((fail_if_success k_inElt); (refine' code_def ?k1 ?k2 ?k3 ?k4 ?k5 ?kA ?kF ?kK ?k6 ?k7 ?k8 ?k9 ?kB ?_ ?c2 ?c3 ?c4 ?c5; (case kA => exact rfl); (case kF => exact rfl); (case kK => exact rfl); (case k1 => k_asm); (case k2 => k_asm); (case k3 => k_asm); (case k4 => k_asm); (case k5 => k_asm); (case k6 => k_is); (case k7 => k_is); (case k8 => ktr_room); (case k9 => first | exact BindsTo.of_eq rfl | exact binds_K (by k_in) rfl (by k_is) rfl rfl rfl | fail "k_enter: no rule for these arguments"); (case c5 => decide); (case kB => exact locs rfl); (case c2 => exact rfl); (case c3 => exact rfl); (case c4 => exact rfl); k_whole; intro g' L' h' FG' F' N' B' X' T'; (try dsimp only); (try k_lift B'); (try k_fold)))
  k_with "MyPre" => first | with_reducible assumption | omega | with_reducible decide | fail "MyPre"
  k_with "execs cons" => ((fail_if_success k_inElt); first | (with_reducible refine consQ (by with_reducible assumption) (fun Q9 hQ9 => ?_)) | (with_reducible refine consQQ (fun Q8 hQ8 Q9 hQ9 => ?_)))
  k_with "execs cons" => (k_made; walk_at "execs cons")
  k_with "execs cons" => ((with_reducible show wpAny _ _ _ _ _ (Shared.mk _ _ _ (@HAdd.hAdd Nat Nat Nat _ _ _) _)); refine stGen s rfl rfl rfl (fun tk9 => ?_); (try dsimp only))
  k_with "MyQ" => ((fail_if_success (with_reducible show wpAny _ _ _ _ _ _)); (with_reducible first | refine qNext (by with_reducible assumption) ?_ | refine qRet (by with_reducible assumption) ?_ | refine qBrk (by with_reducible assumption) ?_ | refine qCont (by with_reducible assumption) ?_ | refine qGen (by with_reducible assumption) ?_); (try dsimp only))
  k_with "MyAll" => first | k_extra "MyQ" | (k_unfold; (try dsimp only)) | (k_end; kc_close) | walk1 | (dsimp only; walk1) | (leave1; walk_say "STEP leave1"; (try dsimp only)) | fail "no step"
  k_with "eval Name" => (k_here; (with_reducible show wpAny _ _ (eval (Expr.Name _ _) (envOf _ _ _ _ _)) _ _ _); k_dflt (refine' ld ?k1 ?k2 ?_ rfl (by kernel_rfl!) (by kernel_rfl!); (case k1 => k_asm); (case k2 => exact rfl); k_whole))
  k_with "MySize" => ((with_reducible show List.length (List.nil) ≤ _); exact Nat.zero_le _)
  k_with "MyKSub" => (intro p77 hp77; (repeat (first | with_reducible exact hp77 | with_reducible refine List.mem_cons_of_mem _ ?_)); done)
  trivial
theorem kw_12_kept_a : True := by
  k_with "call ref" => (k_dflt (k_here; (with_reducible show wpAny _ _ (call (Value.ref 21) _) _ _ _); (fail_if_success k_inElt); k_dflt (refine' Does.use ?k1 ?k2 ?k3 ?k4 ?k5 ?kK (cut_quotient_does _ _ _ _ ?p0 ?p1) ?kS ?kd ?ku ?_; (case k1 => k_asm); (case k2 => k_asm); (case k3 => k_asm); (case k4 => k_asm); (case k5 => k_asm); (case kK => first | exact rfl | assumption); (case kS => (repeat' (first | exact List.forall_mem_nil _ | (refine List.forall_mem_cons.mpr ⟨?_, ?_⟩) | k_mem | (intro p9 hp9; repeat' (first | exact hp9 | exact List.mem_append_left _ hp9 | exact List.mem_append_right _ hp9 | refine List.Mem.tail _ ?_ | refine List.mem_append_right _ ?_))))); (case kd => ktr_room); (case ku => ktr_units); (case p0 => walk_at "MyPre"); (case p1 => walk_at "MyPre"); k_whole); (intro v9 h9 tk9 nw9 E9 F9 N9 hp9; (obtain ⟨hn9, t9, hv9⟩ := hp9; subst hn9; subst hv9); (try simp only [List.nil_append, List.cons_append] at N9); (try dsimp only); (try k_sweep); (try clear E9))))
  trivial
/-- unit_bound and the sign: what kept_units leaves -/
noncomputable def keptOf (d : Nat) (sg : Bool) (u : Int) : Int := if u < 0 ∧ sg = true then 0 - (-u) % 10 ^ d else (if u < 0 then -u else u) % 10 ^ d
theorem keptOf_neg {d : Nat} {sg : Bool} {u : Int} (h : u < 0) (hs : sg = true) : keptOf d sg u = 0 - (if u < 0 then -u else u) % 10 ^ d := by rw [keptOf, if_pos ⟨h, hs⟩, if_pos h]
theorem keptOf_un {d : Nat} {sg : Bool} {u : Int} (hs : sg = false) : keptOf d sg u = (if u < 0 then -u else u) % 10 ^ d := by rw [keptOf, if_neg (fun q => by rw [hs] at q; exact absurd q.2 (by decide))]
theorem keptOf_pos {d : Nat} {sg : Bool} {u : Int} (h : ¬ u < 0) : keptOf d sg u = (if u < 0 then -u else u) % 10 ^ d := by rw [keptOf, if_neg (fun q => h q.1)]
section
variable {w : World} {mean : ExcName → Option Value} {mg mb : Str → Option Value}
theorem kept_units_does (x dx : Addr) (T : ShT) (us : Str) (S : Sh) (u : Int) (t : Tok) (h1 : 1 ≤ S.digits) (h2 : S.digits ≤ 18) :
    Does w mean mg mb 199 2 [.ref x, .int u t] [(x, instObj 133 dx), (dx, dictOf (shapeEs w T us S) 11)] (fun nw v => nw = [] ∧ ∃ t', v = .int (keptOf S.digits.toNat S.signed u) t') := by
  refine unBox ?_
  simp (zetaDelta := true) (disch := (k_dflt (
    refine inBox ?_
    have hb : (10 : Int) ^ S.digits.toNat ≠ 0 := Int.pow_ne_zero (by decide)
    have hm : ∀ z : Int, z.fmod (10 ^ S.digits.toNat) = z % 10 ^ S.digits.toNat := fun z => Int.fmod_eq_emod_of_nonneg _ (Int.pow_nonneg (by decide))
    intro dp un gd cn cs a ccd cl outer A₀ base h₀ L m s Q E B F X N T hk hd hu hret
    have cE := InElt.start s.heap
    walk_at "MyEnter"
    k_steps
    all_goals refine hret _ _ _ _ (by assumption) (newsTake 0 (by assumption)) ⟨rfl, _, congrArg (Value.int · _) ?_⟩
    all_goals rw [hm]
    · exact (keptOf_neg (by assumption) (by assumption)).symm
    · exact (keptOf_un (by assumption)).symm
    · exact (keptOf_pos (by assumption)).symm
    ))) only [↓Box.of]
theorem pow_le {z : Int} {n : Nat} (h : z ≤ n) : (10 : Int) ^ z.toNat ≤ 10 ^ n := by
  have : (10 : Nat) ^ z.toNat ≤ 10 ^ n := Nat.pow_le_pow_right (by decide) (by omega)
  exact_mod_cast this
theorem pow_pos10 (n : Nat) : (0 : Int) < 10 ^ n := Int.pow_pos (by decide)
/-- a decimal's units at another scale, cut toward 0 -/
noncomputable def unitsAt (u sc rs : Int) : Int := if sc ≤ rs then u * 10 ^ (rs - sc).toNat else Int.tdiv u (10 ^ (sc - rs).toNat)
theorem units_at_does (q : Addr) (kk : Nat) (u sc rs : Int) (t tu ts : Tok) (hu0 : u.natAbs < 10 ^ 30) (h1 : 0 ≤ sc) (h2 : sc ≤ 20) (h3 : -5 ≤ rs) (h4 : rs ≤ 20) :
    Does w mean mg mb 36 2 [.ref q, .int rs t, .bool false] [(q, tupOf [.int u tu, .int sc ts] kk)] (fun nw v => nw = [] ∧ ∃ t', v = .int (unitsAt u sc rs) t') := by
  refine unBox ?_
  simp (zetaDelta := true) (disch := (k_dflt (
    refine inBox ?_
    have hm : IntMulOk u (10 ^ (rs - sc).toNat) := IntMulOk.of_bits (bitsOk (Nat.lt_trans hu0 (by decide))) (bitsOk (by
      have h : (10 : Nat) ^ (rs - sc).toNat ≤ 10 ^ 20 := Nat.pow_le_pow_right (by decide) (by omega)
      rw [Int.natAbs_pow]
      exact Nat.lt_of_le_of_lt h (by decide)))
    have hq1 := pow_pos10 (sc - rs).toNat
    have hq2 : (10 : Int) ^ (sc - rs).toNat < 10 ^ 60 := Int.lt_of_le_of_lt (pow_le (n := 25) (by omega)) (by decide)
    intro dp un gd cn cs a ccd cl outer A₀ base h₀ L m s Q E B F X N T hk hd hu hret
    have cE := InElt.start s.heap
    walk_at "MyEnter"
    k_steps
    · exact hret _ _ _ _ (by assumption) (newsTake 0 (by assumption)) ⟨rfl, _, congrArg (Value.int · _) (if_pos (by assumption)).symm⟩
    · exact hret _ _ _ _ (by assumption) (newsTake 0 (by assumption)) ⟨rfl, _, congrArg (Value.int · _) (if_neg (by assumption)).symm⟩
    ))) only [↓Box.of]
end
end
section
theorem kw_13_disp : True := by
  k_with_none
  k_with "MyEnter" => (refine wpAny_call ?_; k_dflt (refine' code_defG ?k1 ?k2 ?k3 ?k4 ?k5 ?kA ?kF ?kK ?k6 ?k7 ?k8 ?k9 ?kB ?_ ?c2 ?c3 ?c4 ?c5; (case kA => exact rfl); (case kF => exact rfl); (case kK => assumption); (case k1 => k_asm); (case k2 => k_asm); (case k3 => k_asm); (case k4 => k_asm); (case k5 => k_asm); (case k6 => k_is); (case k7 => k_is); (case k8 => ktr_room); (case k9 => first | exact BindsTo.of_eq rfl | exact binds_K (by k_in) rfl (by k_is) rfl rfl rfl); (case c5 => decide); (case kB => exact locs rfl); (case c2 => exact rfl); (case c3 => exact rfl); (case c4 => exact rfl); k_whole; intro g' L' h' FG' F' N' B' X' T' kG'; (try dsimp only); (try k_lift B'); (try k_fold)))
  k_with "binaryOp FloorDiv int int" => (k_here; (with_reducible refine floordiv_int ?d0 ?_ (Or.inl ?d1)); (case d0 => first | with_reducible assumption | decide | omega); (case d1 => first | with_reducible assumption | exact PyProof.noPylong_of_log2 (by decide +kernel)))
  k_with "MyKEnter" => ((fail_if_success k_inElt); (refine' code_defC ?k1 ?k2 ?k3 ?k4 ?k5 ?kA ?kF ?kK ?k6 ?k7 ?k8 ?k9 ?kB ?kD ?_ ?c2 ?c3 ?c4; (case kA => exact rfl); (case kF => exact rfl); (case kK => exact rfl); (case k1 => k_asm); (case k2 => k_asm); (case k3 => k_asm); (case k4 => k_asm); (case k5 => k_asm); (case k6 => k_is); (case k7 => k_is); (case k8 => ktr_room); (case k9 => first | exact BindsTo.of_eq rfl | exact binds_K (by k_in) rfl (by k_is) rfl rfl rfl | fail "k_enter: no rule for these arguments"); (case kB => exact rfl); (case kD => decide +kernel); (case c2 => exact rfl); (case c3 => exact rfl); (case c4 => exact rfl); k_whole; intro g' L' h' tk' cells' FG' F' N' Y' B' X' T' l1; (try k_lt l1); k_cells Y'; (try simp only [List.cons_append, List.nil_append] at N'); (try dsimp only); (try k_lift B'); (try k_fold)))
  k_with "MyKEnter" => ((fail_if_success k_inElt); (refine' code_def ?k1 ?k2 ?k3 ?k4 ?k5 ?kA ?kF ?kK ?k6 ?k7 ?k8 ?k9 ?kB ?_ ?c2 ?c3 ?c4 ?c5; (case kA => exact rfl); (case kF => exact rfl); (case kK => exact rfl); (case k1 => k_asm); (case k2 => k_asm); (case k3 => k_asm); (case k4 => k_asm); (case k5 => k_asm); (case k6 => k_is); (case k7 => k_is); (case k8 => ktr_room); (case k9 => first | exact BindsTo.of_eq rfl | exact binds_K (by k_in) rfl (by k_is) rfl rfl rfl | fail "k_enter: no rule for these arguments"); (case c5 => decide); (case kB => exact locs rfl); (case c2 => exact rfl); (case c3 => exact rfl); (case c4 => exact rfl); k_whole; intro g' L' h' FG' F' N' B' X' T'; (try dsimp only); (try k_lift B'); (try k_fold)))
  k_with "MyPre" => first | with_reducible assumption | omega | with_reducible decide | fail "MyPre"
  k_with "execs cons" => ((fail_if_success k_inElt); first | (with_reducible refine consQ (by with_reducible assumption) (fun Q9 hQ9 => ?_)) | (with_reducible refine consQQ (fun Q8 hQ8 Q9 hQ9 => ?_)))
  k_with "execs cons" => (k_made; walk_at "execs cons")
  k_with "execs cons" => ((with_reducible show wpAny _ _ _ _ _ (Shared.mk _ _ _ (@HAdd.hAdd Nat Nat Nat _ _ _) _)); refine stGen s rfl rfl rfl (fun tk9 => ?_); (try dsimp only))
  k_with "MyQ" => ((fail_if_success (with_reducible show wpAny _ _ _ _ _ _)); (with_reducible first | refine qNext (by with_reducible assumption) ?_ | refine qRet (by with_reducible assumption) ?_ | refine qBrk (by with_reducible assumption) ?_ | refine qCont (by with_reducible assumption) ?_ | refine qGen (by with_reducible assumption) ?_); (try dsimp only))
  k_with "MyAll" => first | k_extra "MyQ" | (k_unfold; (try dsimp only)) | (k_end; kc_close) | walk1 | (dsimp only; walk1) | (leave1; walk_say "STEP leave1"; (try dsimp only)) | fail "no step"
  k_with "eval Name" => (k_here; (with_reducible show wpAny _ _ (eval (Expr.Name _ _) (envOf _ _ _ _ _)) _ _ _); k_dflt (refine' ld ?k1 ?k2 ?_ rfl (by kernel_rfl!) (by kernel_rfl!); (case k1 => k_asm); (case k2 => exact rfl); k_whole))
  k_with "MySize" => ((with_reducible show List.length (List.nil) ≤ _); exact Nat.zero_le _)
  k_with "MyKSub" => (intro p77 hp77; (repeat (first | with_reducible exact hp77 | with_reducible refine List.mem_cons_of_mem _ ?_)); done)
  trivial
theorem kw_13_disp_a : True := by
  k_with "call ref" => (k_dflt (k_here; (with_reducible show wpAny _ _ (call (Value.ref 206) _) _ _ _); (fail_if_success k_inElt); k_dflt (refine' Does.use ?k1 ?k2 ?k3 ?k4 ?k5 ?kK (figures_for_does _ _ _ _ ?p0 ?p1 ?p2) ?kS ?kd ?ku ?_; (case k1 => k_asm); (case k2 => k_asm); (case k3 => k_asm); (case k4 => k_asm); (case k5 => k_asm); (case kK => first | exact rfl | assumption); (case kS => (repeat' (first | exact List.forall_mem_nil _ | (refine List.forall_mem_cons.mpr ⟨?_, ?_⟩) | k_mem | (intro p9 hp9; repeat' (first | exact hp9 | exact List.mem_append_left _ hp9 | exact List.mem_append_right _ hp9 | refine List.Mem.tail _ ?_ | refine List.mem_append_right _ ?_))))); (case kd => ktr_room); (case ku => ktr_units); (case p0 => walk_at "MyPre"); (case p1 => walk_at "MyPre"); (case p2 => walk_at "MyPre"); k_whole); (intro v9 h9 tk9 nw9 E9 F9 N9 hp9; (obtain ⟨r9, vs9, hn9, hv9, hi9⟩ := hp9; subst hn9; subst hv9); (try simp only [List.nil_append, List.cons_append] at N9); (try dsimp only); (try k_sweep); (try clear E9))))
  k_with "exec Assign cons ListComp" => (k_dflt (k_here; (with_reducible apply Assign_ListComp_DCn); (case hsw => with_unfolding_all rfl); (case hL => with_unfolding_all rfl); (case hh => with_unfolding_all rfl); (case hclos => with_unfolding_all rfl); (case hcell => decide); (case hkind => with_unfolding_all rfl); (case hnames => decide); (case hx => with_unfolding_all rfl); (case hy => with_unfolding_all rfl); (case hp => with_unfolding_all rfl); (case hs => intro _; with_unfolding_all rfl); (case' h => with_reducible refine wpAny_compPack ?_)))
  k_with "MySize" => (rw [figs_length, PySem.sizeLine_eq]; omega)
  k_with "MySeqSize" => (rw [figs_length, PySem.sizeLine_eq]; omega)
  trivial
theorem codes_in {n : Int} {c : Nat} {L : List Int} (e : List.map (HAdd.hAdd 48) (figs n c) = L) : ∀ z ∈ L, 48 ≤ z ∧ z < 58 := fun z hz => by
  rw [← e] at hz
  obtain ⟨f, hf, rfl⟩ := List.mem_map.mp hz
  have := figs_in f hf
  omega
theorem codes_length {n : Int} {c : Nat} {L : List Int} (e : List.map (HAdd.hAdd 48) (figs n c) = L) : L.length = c := by rw [← e, List.length_map, figs_length]
theorem getD_of {L : List Int} {P : Int → Prop} (h : ∀ n ∈ L, P n) {j : Nat} (hj : j < L.length) : P (L.getD j 0) := by
  rw [List.getD_eq_getElem?_getD, List.getElem?_eq_getElem hj]
  exact h _ (List.getElem_mem hj)
noncomputable def overRow (u : Int) : List UInt8 := if u < 0 then [125, 74, 75, 76, 77, 78, 79, 80, 81, 82] else [123, 65, 66, 67, 68, 69, 70, 71, 72, 73]
/-- a display number's octets -/
noncomputable def dispOf (d : Nat) (sg : Bool) (u : Int) : List Int :=
  let L := (figs (if u < 0 then -u else u) d).map (48 + ·)
  if sg = true then L.set ((L.length : Int) - 1).toNat (((overRow u).getD (L.getD ((L.length : Int) - 1).toNat 0 - 48).toNat 0).toNat : Int) else L
theorem dispOf_signed {d : Nat} {sg : Bool} {u : Int} {L : List Int} {row : List UInt8} (h : sg = true) (e : List.map (HAdd.hAdd 48) (figs (if u < 0 then -u else u) d) = L) (hr : overRow u = row) :
    L.set ((L.length : Int) - 1).toNat ((row.getD (L.getD ((L.length : Int) - 1).toNat 0 - 48).toNat 0).toNat : Int) = dispOf d sg u := by
  subst e hr
  exact (if_pos h).symm
theorem dispOf_plain {d : Nat} {sg : Bool} {u : Int} {L : List Int} (h : sg = false) (e : List.map (HAdd.hAdd 48) (figs (if u < 0 then -u else u) d) = L) : L = dispOf d sg u := by
  subst e
  exact (if_neg (by rw [h]; decide)).symm
theorem u8_in {b : UInt8} : (0 : Int) ≤ (b.toNat : Int) ∧ (b.toNat : Int) < 256 := by
  have := b.toNat_lt
  omega
theorem in_set {L : List Int} {j : Nat} {x : Int} (h : ∀ z ∈ L, 48 ≤ z ∧ z < 58) (hx : 0 ≤ x ∧ x < 256) : ∀ z ∈ L.set j x, 0 ≤ z ∧ z < 256 := fun z hz => by
  rcases List.mem_or_eq_of_mem_set hz with hz | rfl
  · have := h z hz; omega
  · exact hx
section
variable {w : World} {mean : ExcName → Option Value} {mg mb : Str → Option Value}
theorem display_octets_does (x dx : Addr) (T : ShT) (us : Str) (S : Sh) (u : Int) (t : Tok) (h1 : 1 ≤ S.digits) (h2 : S.digits ≤ 18) :
    Does w mean mg mb 211 2 [.ref x, .int u t] [(x, instObj 133 dx), (dx, dictOf (shapeEs w T us S) 11)] (fun nw v => nw = [] ∧ ∃ t', v = .bytes (byteArr (dispOf S.digits.toNat S.signed u)) t') := by
  refine unBox ?_
  simp (zetaDelta := true) (disch := (k_dflt (
    refine inBox ?_
    have hA : 0 ≤ (if u < 0 then -u else u) := by split <;> omega
    intro dp un gd cn cs a ccd cl outer A₀ base h₀ L m s Q E B F X N T hk hd hu hret
    have cE := InElt.start s.heap
    walk_at "MyEnter"
    k_steps
    all_goals (rename IntsAre _ _ => iX; rename CarriedAll _ _ => iC; clear iC)
    all_goals (rw [List.filter_eq_self.mpr (fun _ _ => rfl)] at iX)
    all_goals (generalize hLe : List.map (HAdd.hAdd 48) (figs (if u < 0 then -u else u) S.digits.toNat) = L at iX)
    all_goals have hL0 := codes_length hLe
    all_goals have hL1 : (L.length : Int) = S.digits := by omega
    all_goals have hL2 := codes_in hLe
    · refine kst_len (k := L.length) (by assumption) (by k_mem) iX.length (by omega) ?_
      have hg := getD_of hL2 (j := ((L.length : Int) - 1).toNat) (by omega)
      k_steps
      all_goals (rename News _ _ _ _ => NX)
      all_goals have ne1 := newsNe NX (List.mem_cons_self ..) (List.mem_cons_of_mem _ (List.mem_cons_of_mem _ (List.mem_cons_self ..))) (by intro q; cases q)
      all_goals have ne2 := newsNe NX (List.mem_cons_self ..) (List.mem_cons_of_mem _ (List.mem_cons_of_mem _ (List.mem_cons_of_mem _ (List.mem_cons_self ..)))) (by intro q; injection q with q; exact absurd q (by decide))
      all_goals (have N3 := cb_drop (news := [_, (x, _), (dx, _)]) NX (by intro p hp; rcases List.mem_cons.mp hp with rfl | hp; exact List.mem_cons_self ..; exact List.mem_cons_of_mem _ (List.mem_cons_of_mem _ hp)); clear NX)
      all_goals k_steps
      all_goals (rename IntsAre _ _ => iZ; rename News _ _ _ _ => NX)
      · refine KBa.make_K (by assumption) NX rfl (News.isList NX (List.mem_cons_self ..)) iZ (in_set hL2 u8_in) (by rw [List.length_set]; omega) fun h' t' k F' N' _ => ?_
        k_steps
        exact hret _ _ _ _ (by assumption) (newsTake 0 (by assumption)) ⟨rfl, _, congrArg (Value.bytes · _) (congrArg byteArr (dispOf_signed (by assumption) hLe (if_pos (by assumption))))⟩
      · refine KBa.make_K (by assumption) NX rfl (News.isList NX (List.mem_cons_self ..)) iZ (in_set hL2 u8_in) (by rw [List.length_set]; omega) fun h' t' k F' N' _ => ?_
        k_steps
        exact hret _ _ _ _ (by assumption) (newsTake 0 (by assumption)) ⟨rfl, _, congrArg (Value.bytes · _) (congrArg byteArr (dispOf_signed (by assumption) hLe (if_neg (by assumption))))⟩
    · refine KBa.make_K (by assumption) (by assumption) rfl (by assumption) iX (fun n hn => by have := hL2 n hn; omega) (by omega) fun h' t' k F' N' _ => ?_
      k_steps
      refine hret _ _ _ _ (by assumption) (newsTake 0 (by assumption)) ⟨rfl, _, congrArg (Value.bytes · _) (congrArg byteArr ?_)⟩
      exact dispOf_plain (by assumption) hLe
    ))) only [↓Box.of]
end
end
section
theorem kw_14_bin : True := by
  k_with_none
  k_with "MyEnter" => (refine wpAny_call ?_; k_dflt (refine' code_defG ?k1 ?k2 ?k3 ?k4 ?k5 ?kA ?kF ?kK ?k6 ?k7 ?k8 ?k9 ?kB ?_ ?c2 ?c3 ?c4 ?c5; (case kA => exact rfl); (case kF => exact rfl); (case kK => assumption); (case k1 => k_asm); (case k2 => k_asm); (case k3 => k_asm); (case k4 => k_asm); (case k5 => k_asm); (case k6 => k_is); (case k7 => k_is); (case k8 => ktr_room); (case k9 => first | exact BindsTo.of_eq rfl | exact binds_K (by k_in) rfl (by k_is) rfl rfl rfl); (case c5 => decide); (case kB => exact locs rfl); (case c2 => exact rfl); (case c3 => exact rfl); (case c4 => exact rfl); k_whole; intro g' L' h' FG' F' N' B' X' T' kG'; (try dsimp only); (try k_lift B'); (try k_fold)))
  k_with "binaryOp FloorDiv int int" => (k_here; (with_reducible refine floordiv_int ?d0 ?_ (Or.inl ?d1)); (case d0 => first | with_reducible assumption | decide | omega); (case d1 => first | with_reducible assumption | exact PyProof.noPylong_of_log2 (by decide +kernel)))
  k_with "MyKEnter" => ((fail_if_success k_inElt); (refine' code_defC ?k1 ?k2 ?k3 ?k4 ?k5 ?kA ?kF ?kK ?k6 ?k7 ?k8 ?k9 ?kB ?kD ?_ ?c2 ?c3 ?c4; (case kA => exact rfl); (case kF => exact rfl); (case kK => exact rfl); (case k1 => k_asm); (case k2 => k_asm); (case k3 => k_asm); (case k4 => k_asm); (case k5 => k_asm); (case k6 => k_is); (case k7 => k_is); (case k8 => ktr_room); (case k9 => first | exact BindsTo.of_eq rfl | exact binds_K (by k_in) rfl (by k_is) rfl rfl rfl | fail "k_enter: no rule for these arguments"); (case kB => exact rfl); (case kD => decide +kernel); (case c2 => exact rfl); (case c3 => exact rfl); (case c4 => exact rfl); k_whole; intro g' L' h' tk' cells' FG' F' N' Y' B' X' T' l1; (try k_lt l1); k_cells Y'; (try simp only [List.cons_append, List.nil_append] at N'); (try dsimp only); (try k_lift B'); (try k_fold)))
  k_with "MyKEnter" => ((fail_if_success k_inElt); (refine' code_def ?k1 ?k2 ?k3 ?k4 ?k5 ?kA ?kF ?kK ?k6 ?k7 ?k8 ?k9 ?kB ?_ ?c2 ?c3 ?c4 ?c5; (case kA => exact rfl); (case kF => exact rfl); (case kK => exact rfl); (case k1 => k_asm); (case k2 => k_asm); (case k3 => k_asm); (case k4 => k_asm); (case k5 => k_asm); (case k6 => k_is); (case k7 => k_is); (case k8 => ktr_room); (case k9 => first | exact BindsTo.of_eq rfl | exact binds_K (by k_in) rfl (by k_is) rfl rfl rfl | fail "k_enter: no rule for these arguments"); (case c5 => decide); (case kB => exact locs rfl); (case c2 => exact rfl); (case c3 => exact rfl); (case c4 => exact rfl); k_whole; intro g' L' h' FG' F' N' B' X' T'; (try dsimp only); (try k_lift B'); (try k_fold)))
  k_with "MyPre" => first | with_reducible assumption | omega | with_reducible decide | fail "MyPre"
  k_with "execs cons" => ((fail_if_success k_inElt); first | (with_reducible refine consQ (by with_reducible assumption) (fun Q9 hQ9 => ?_)) | (with_reducible refine consQQ (fun Q8 hQ8 Q9 hQ9 => ?_)))
  k_with "execs cons" => (k_made; walk_at "execs cons")
  k_with "execs cons" => ((with_reducible show wpAny _ _ _ _ _ (Shared.mk _ _ _ (@HAdd.hAdd Nat Nat Nat _ _ _) _)); refine stGen s rfl rfl rfl (fun tk9 => ?_); (try dsimp only))
  k_with "MyQ" => ((fail_if_success (with_reducible show wpAny _ _ _ _ _ _)); (with_reducible first | refine qNext (by with_reducible assumption) ?_ | refine qRet (by with_reducible assumption) ?_ | refine qBrk (by with_reducible assumption) ?_ | refine qCont (by with_reducible assumption) ?_ | refine qGen (by with_reducible assumption) ?_); (try dsimp only))
  k_with "MyAll" => first | k_extra "MyQ" | (k_unfold; (try dsimp only)) | (k_end; kc_close) | walk1 | (dsimp only; walk1) | (leave1; walk_say "STEP leave1"; (try dsimp only)) | fail "no step"
  k_with "eval Name" => (k_here; (with_reducible show wpAny _ _ (eval (Expr.Name _ _) (envOf _ _ _ _ _)) _ _ _); k_dflt (refine' ld ?k1 ?k2 ?_ rfl (by kernel_rfl!) (by kernel_rfl!); (case k1 => k_asm); (case k2 => exact rfl); k_whole))
  k_with "MySize" => ((with_reducible show List.length (List.nil) ≤ _); exact Nat.zero_le _)
  k_with "MyKSub" => (intro p77 hp77; (repeat (first | with_reducible exact hp77 | with_reducible refine List.mem_cons_of_mem _ ?_)); done)
  trivial
section
variable {w : World} {mean : ExcName → Option Value} {mg mb : Str → Option Value}
theorem binary_octets_does (x dx : Addr) (T : ShT) (us : Str) (S : Sh) (u : Int) (t : Tok) (h1 : 1 ≤ S.size) (h2 : S.size ≤ 40) :
    Does w mean mg mb 223 1 [.ref x, .int u t] [(x, instObj 133 dx), (dx, dictOf (shapeEs w T us S) 11)] (fun nw v => nw = [] ∧ ∃ t', v = .bytes (byteArr (figsB 256 (u % 256 ^ S.size.toNat) S.size.toNat)) t') := by
  refine unBox ?_
  simp (zetaDelta := true) (disch := (k_dflt (
    refine inBox ?_
    have hb : (256 : Int) ^ S.size.toNat ≠ 0 := Int.pow_ne_zero (by decide)
    have hm : ∀ z : Int, z.fmod (256 ^ S.size.toNat) = z % 256 ^ S.size.toNat := fun z => Int.fmod_eq_emod_of_nonneg _ (Int.pow_nonneg (by decide))
    have h0 : 0 ≤ S.size := by omega
    intro dp un gd cn cs a ccd cl outer A₀ base h₀ L m s Q E B F X N T hk hd hu hret
    have cE := InElt.start s.heap
    walk_at "MyEnter"
    k_with "state" => first | exact FigI.start | exact FigI.turn (by decide) (by assumption)
    repeat ((fail_if_success (with_reducible show wpAny _ _ (pyIter _) _ _ _)); (first | k_extra "MyQ" | (k_unfold; (try dsimp only)) | walk1 | (dsimp only; walk1)))
    rename Fr _ _ _ _ => lF'
    rename News _ _ _ _ => lN'
    rename IsRange _ _ _ _ _ _ _ _ => rgX
    refine kst_range (σ := Int × Tok × List Value × List Int × Nat) (n := S.size.toNat) (fun c => [(_, _), (_, listOf (List.toArray c.2.2.1) c.2.2.2.2), (x, _), (dx, _)]) (fun c => [(Str.ofString "rest", .int c.1 c.2.1)]) (fun c => IntsAre c.2.2.1 c.2.2.2.1) [] (fun pre c => FigI 256 (u % 256 ^ S.size.toNat) pre c.1 c.2.2.2.1) (u.fmod (256 ^ S.size.toNat), ?tok, [], [], 0) (by rfl) rgX ?hs ?hn lF' lN' ?hf ?hk ?hp ?turn ?done
    case hs => exact small_one (by decide) (by decide) (by omega) (by omega)
    case hn => exact (rangeSize_nat 0 _).trans (congrArg (fun x : Int => (x.toNat : Int)) (by omega))
    case hf => exact IntsAre.nil
    case hk => kst_all
    case hp => rw [hm]; exact FigI.start
    case turn =>
      clear lF' lN'
      rintro ⟨rest, tr, vs, found, kk⟩ pre k tk um h1 tk1 own hk1 hlt hoff hfa hinv kFr kNews
      dsimp only [kstB] at kFr
      dsimp only at kNews hfa hinv
      have kMark := kstMark
      simp only [List.map_cons, List.map_nil] at hoff
      have hlv : vs.length = pre.length := hinv.length hfa
      (try k_fold)
      k_steps
    case done =>
      clear lF' lN'
      rintro ⟨rest, tr, vs, found, kk⟩ um h1 tk1 hfa hinv kFr kNews
      dsimp only [kstB] at kFr
      dsimp only at kNews hfa hinv
      have kMark := kstMark
      have hlv : vs.length = S.size.toNat := by rw [hinv.length hfa, rangeKs, List.length_map, List.length_range]
      have hff : found.reverse = figsB 256 (u % 256 ^ S.size.toNat) S.size.toNat := by rw [hinv.2, figsB, rangeKs, List.length_map, List.length_range]
      have hl2 : found.reverse.length = S.size.toNat := by rw [hff, figsB_length]
      have hin : KBa.In found.reverse := fun z hz => by rw [hff] at hz; exact figsB_in (by decide) z hz
      (try k_fold)
      k_steps
      exact hret _ _ _ _ (by assumption) (newsTake 0 (by assumption)) ⟨rfl, _, congrArg (Value.bytes · _) (congrArg byteArr hff)⟩
    ))) only [↓Box.of]
end
end
section
theorem kw_15_pack : True := by
  k_with_none
  k_with "MyEnter" => (refine wpAny_call ?_; k_dflt (refine' code_defG ?k1 ?k2 ?k3 ?k4 ?k5 ?kA ?kF ?kK ?k6 ?k7 ?k8 ?k9 ?kB ?_ ?c2 ?c3 ?c4 ?c5; (case kA => exact rfl); (case kF => exact rfl); (case kK => assumption); (case k1 => k_asm); (case k2 => k_asm); (case k3 => k_asm); (case k4 => k_asm); (case k5 => k_asm); (case k6 => k_is); (case k7 => k_is); (case k8 => ktr_room); (case k9 => first | exact BindsTo.of_eq rfl | exact binds_K (by k_in) rfl (by k_is) rfl rfl rfl); (case c5 => decide); (case kB => exact locs rfl); (case c2 => exact rfl); (case c3 => exact rfl); (case c4 => exact rfl); k_whole; intro g' L' h' FG' F' N' B' X' T' kG'; (try dsimp only); (try k_lift B'); (try k_fold)))
  k_with "binaryOp FloorDiv int int" => (k_here; (with_reducible refine floordiv_int ?d0 ?_ (Or.inl ?d1)); (case d0 => first | with_reducible assumption | decide | omega); (case d1 => first | with_reducible assumption | exact PyProof.noPylong_of_log2 (by decide +kernel)))
  k_with "MyKEnter" => ((fail_if_success k_inElt); (refine' code_defC ?k1 ?k2 ?k3 ?k4 ?k5 ?kA ?kF ?kK ?k6 ?k7 ?k8 ?k9 ?kB ?kD ?_ ?c2 ?c3 ?c4; (case kA => exact rfl); (case kF => exact rfl); (case kK => exact rfl); (case k1 => k_asm); (case k2 => k_asm); (case k3 => k_asm); (case k4 => k_asm); (case k5 => k_asm); (case k6 => k_is); (case k7 => k_is); (case k8 => ktr_room); (case k9 => first | exact BindsTo.of_eq rfl | exact binds_K (by k_in) rfl (by k_is) rfl rfl rfl | fail "k_enter: no rule for these arguments"); (case kB => exact rfl); (case kD => decide +kernel); (case c2 => exact rfl); (case c3 => exact rfl); (case c4 => exact rfl); k_whole; intro g' L' h' tk' cells' FG' F' N' Y' B' X' T' l1; (try k_lt l1); k_cells Y'; (try simp only [List.cons_append, List.nil_append] at N'); (try dsimp only); (try k_lift B'); (try k_fold)))
  k_with "MyKEnter" => ((fail_if_success k_inElt); (refine' code_def ?k1 ?k2 ?k3 ?k4 ?k5 ?kA ?kF ?kK ?k6 ?k7 ?k8 ?k9 ?kB ?_ ?c2 ?c3 ?c4 ?c5; (case kA => exact rfl); (case kF => exact rfl); (case kK => exact rfl); (case k1 => k_asm); (case k2 => k_asm); (case k3 => k_asm); (case k4 => k_asm); (case k5 => k_asm); (case k6 => k_is); (case k7 => k_is); (case k8 => ktr_room); (case k9 => first | exact BindsTo.of_eq rfl | exact binds_K (by k_in) rfl (by k_is) rfl rfl rfl | fail "k_enter: no rule for these arguments"); (case c5 => decide); (case kB => exact locs rfl); (case c2 => exact rfl); (case c3 => exact rfl); (case c4 => exact rfl); k_whole; intro g' L' h' FG' F' N' B' X' T'; (try dsimp only); (try k_lift B'); (try k_fold)))
  k_with "MyPre" => first | with_reducible assumption | omega | with_reducible decide | fail "MyPre"
  k_with "execs cons" => ((fail_if_success k_inElt); first | (with_reducible refine consQ (by with_reducible assumption) (fun Q9 hQ9 => ?_)) | (with_reducible refine consQQ (fun Q8 hQ8 Q9 hQ9 => ?_)))
  k_with "execs cons" => (k_made; walk_at "execs cons")
  k_with "execs cons" => ((with_reducible show wpAny _ _ _ _ _ (Shared.mk _ _ _ (@HAdd.hAdd Nat Nat Nat _ _ _) _)); refine stGen s rfl rfl rfl (fun tk9 => ?_); (try dsimp only))
  k_with "MyQ" => ((fail_if_success (with_reducible show wpAny _ _ _ _ _ _)); (with_reducible first | refine qNext (by with_reducible assumption) ?_ | refine qRet (by with_reducible assumption) ?_ | refine qBrk (by with_reducible assumption) ?_ | refine qCont (by with_reducible assumption) ?_ | refine qGen (by with_reducible assumption) ?_); (try dsimp only))
  k_with "MyAll" => first | k_extra "MyQ" | (k_unfold; (try dsimp only)) | (k_end; kc_close) | walk1 | (dsimp only; walk1) | (leave1; walk_say "STEP leave1"; (try dsimp only)) | fail "no step"
  k_with "eval Name" => (k_here; (with_reducible show wpAny _ _ (eval (Expr.Name _ _) (envOf _ _ _ _ _)) _ _ _); k_dflt (refine' ld ?k1 ?k2 ?_ rfl (by kernel_rfl!) (by kernel_rfl!); (case k1 => k_asm); (case k2 => exact rfl); k_whole))
  k_with "MySize" => ((with_reducible show List.length (List.nil) ≤ _); exact Nat.zero_le _)
  k_with "MyKSub" => (intro p77 hp77; (repeat (first | with_reducible exact hp77 | with_reducible refine List.mem_cons_of_mem _ ?_)); done)
  trivial
theorem kw_15_pack_a : True := by
  k_with "call ref" => (k_dflt (k_here; (with_reducible show wpAny _ _ (call (Value.ref 206) _) _ _ _); (fail_if_success k_inElt); k_dflt (refine' Does.use ?k1 ?k2 ?k3 ?k4 ?k5 ?kK (figures_for_does _ _ _ _ ?p0 ?p1 ?p2) ?kS ?kd ?ku ?_; (case k1 => k_asm); (case k2 => k_asm); (case k3 => k_asm); (case k4 => k_asm); (case k5 => k_asm); (case kK => first | exact rfl | assumption); (case kS => (repeat' (first | exact List.forall_mem_nil _ | (refine List.forall_mem_cons.mpr ⟨?_, ?_⟩) | k_mem | (intro p9 hp9; repeat' (first | exact hp9 | exact List.mem_append_left _ hp9 | exact List.mem_append_right _ hp9 | refine List.Mem.tail _ ?_ | refine List.mem_append_right _ ?_))))); (case kd => ktr_room); (case ku => ktr_units); (case p0 => walk_at "MyPre"); (case p1 => walk_at "MyPre"); (case p2 => walk_at "MyPre"); k_whole); (intro v9 h9 tk9 nw9 E9 F9 N9 hp9; (obtain ⟨r9, vs9, hn9, hv9, hi9⟩ := hp9; subst hn9; subst hv9); (try simp only [List.nil_append, List.cons_append] at N9); (try dsimp only); (try k_sweep); (try clear E9))))
  k_with "call ref" => (k_dflt (k_here; (with_reducible show wpAny _ _ (call (Value.ref 199) _) _ _ _); (fail_if_success k_inElt); k_dflt (refine' Does.use ?k1 ?k2 ?k3 ?k4 ?k5 ?kK (kept_units_does _ _ _ _ _ _ _ ?p0 ?p1) ?kS ?kd ?ku ?_; (case k1 => k_asm); (case k2 => k_asm); (case k3 => k_asm); (case k4 => k_asm); (case k5 => k_asm); (case kK => first | exact rfl | assumption); (case kS => (repeat' (first | exact List.forall_mem_nil _ | (refine List.forall_mem_cons.mpr ⟨?_, ?_⟩) | k_mem | (intro p9 hp9; repeat' (first | exact hp9 | exact List.mem_append_left _ hp9 | exact List.mem_append_right _ hp9 | refine List.Mem.tail _ ?_ | refine List.mem_append_right _ ?_))))); (case kd => ktr_room); (case ku => ktr_units); (case p0 => walk_at "MyPre"); (case p1 => walk_at "MyPre"); k_whole); (intro v9 h9 tk9 nw9 E9 F9 N9 hp9; (obtain ⟨hn9, t9, hv9⟩ := hp9; subst hn9; subst hv9); (try simp only [List.nil_append, List.cons_append] at N9); (try dsimp only); (try k_sweep); (try clear E9))))
  k_with "MySum" => (simp only [figs_length, List.length_cons, List.length_nil]; (try rw [PySem.sizeLine_eq]); omega)
  k_with "eval ListComp" => (k_dflt (k_here; (with_reducible apply ListComp_DCr); (case hh => with_unfolding_all rfl); (case hclos => with_unfolding_all rfl); (case hcell => decide); (case hkind => with_unfolding_all rfl); (case hnames => decide); (case hx => with_unfolding_all rfl); (case hs => intro _; with_unfolding_all rfl); (case' h => with_reducible refine wpAny_rangePack ?_)))
  trivial
theorem range2 {k : Nat} : Builtin.Range.rangeSize 0 (k : Int) 2 = (((k + 1) / 2 : Nat) : Int) := by
  unfold Builtin.Range.rangeSize
  rw [if_pos (by decide)]
  split <;> omega
theorem fitsLong {i : Int} (h1 : -10000 ≤ i) (h2 : i ≤ 10000) : Builtin.Range.rangeFitsLong i = true := by
  unfold Builtin.Range.rangeFitsLong
  rw [decide_eq_true (show -(2 ^ 63) ≤ i by omega), decide_eq_true (show i < 2 ^ 63 by omega)]
  rfl
theorem small2 {k : Nat} (h : k ≤ 1000) : Builtin.Range.small 0 (k : Int) 2 = true := by
  unfold Builtin.Range.small
  rw [range2, fitsLong (i := 0) (by decide) (by decide), fitsLong (i := (k : Int)) (by omega) (by omega), fitsLong (i := 2) (by decide) (by decide), fitsLong (i := (((k + 1) / 2 : Nat) : Int)) (by omega) (by omega), if_pos (by decide), fitsLong (i := (k : Int) + (2 - 1)) (by omega) (by omega), Bool.or_true]
  rfl
theorem range2_in {n : Nat} {a : Int} (h : a ∈ rangeInts 0 2 n) : 0 ≤ a ∧ a + 1 < 2 * (n : Int) := by
  unfold rangeInts at h
  obtain ⟨i, hi, rfl⟩ := List.mem_map.mp h
  have := List.mem_range.mp hi
  omega
theorem pkN {s : Int} (h : s ≤ 20) : (2 * s - 1).toNat + (0 + 1) ≤ 40 := by omega
theorem pkF {s : Int} (h : s ≤ 20) : (((2 * s - 1).toNat + (0 + 1) : Nat) : Int) < 2 ^ 63 := by have := pkN h; omega
theorem pkL {s : Int} (h : s ≤ 20) : ((2 * s - 1).toNat + (0 + 1) + 1) / 2 ≤ 16777216 := by have := pkN h; omega
theorem pkHalf {s : Int} (h : 1 ≤ s) : (2 * s - 1).toNat = 2 * (((2 * s - 1).toNat + (0 + 1) + 1) / 2) - 1 := by omega
theorem pkB {s a : Int} (h1 : 1 ≤ s) (h2 : s ≤ 20) (h : 0 ≤ a ∧ a + 1 < 2 * ((((2 * s - 1).toNat + (0 + 1) + 1) / 2 : Nat) : Int)) :
    0 ≤ a ∧ 0 ≤ a + 1 ∧ a < 2 ^ 63 ∧ a + 1 < 2 ^ 63 ∧ ∀ X m : Int, a < ((figs X (2 * s - 1).toNat ++ [m]).length : Int) ∧ a + 1 < ((figs X (2 * s - 1).toNat ++ [m]).length : Int) := by
  have q : a + 1 < (((2 * s - 1).toNat + 1 : Nat) : Int) := by omega
  have q2 := pkN h2
  refine ⟨h.1, by omega, by omega, by omega, fun X m => ?_⟩
  rw [List.length_append, figs_length, List.length_cons, List.length_nil]
  exact ⟨by omega, q⟩
theorem kw_15_pack_b : True := by
  k_with "call builtin:len" => (k_dflt (k_here; (with_reducible show wpAny _ _ (call (Value.builtin "len") [Value.ref _]) _ _ _); (with_reducible rename IntsAre _ _ => iH); (have hl9 := iH.length); (rw [List.length_append, figs_length, List.length_cons, List.length_nil] at hl9); (have hl7 := iH.length.symm.trans hl9); (refine kst_len (by assumption) (by simp only [List.cons_append]; k_mem) hl9 (pkF (by with_reducible assumption)) ?_)))
  k_with "eval Name" => (k_here; (with_reducible rename PyProof.Rows.MarkD _ => M9); (with_reducible rename Fr _ _ _ _ => F9); (refine wpAny_Name (wpAny_loadName_local (by rfl) (by rfl) F9.ns (by with_reducible assumption) ?_) (by decide)))
  k_with "subscriptTail Name Name ref int" => walk_at "subscriptTail"
  k_with "subscriptTail Name BinOp ref int" => walk_at "subscriptTail"
  k_with "subscriptTail Name Constant ref int" => walk_at "subscriptTail"
  k_with "subscriptTail Subscript Constant ref int" => walk_at "subscriptTail"
  k_with "subscriptTail" => (k_dflt (k_here; (with_reducible show wpAny _ _ (subscriptTail _ _ (Value.ref _) (Value.int _ _)) _ _ _); (with_reducible rename News _ _ _ _ => N9); (with_reducible rename IntsAre _ _ => iH); k_dflt (refine' ksa_sub N9 ?ka iH ?k1 ?k2 ?k3 ?_ ?kb; (case ka => k_mem); (case k1 => first | exact hb9.1 | exact hb9.2.1); (case k2 => first | exact (hb9.2.2.2.2 _ _).1 | exact (hb9.2.2.2.2 _ _).2); (case k3 => first | exact hb9.2.2.1 | exact hb9.2.2.2.1); (case kb => with_unfolding_all rfl)); intro _))
  k_with "RangePack" => (k_dflt ((refine RangePack.intro ?_); (with_reducible rename IsRange _ _ _ _ _ _ _ _ => R9); (with_reducible rename Fr _ _ _ _ => F9); (with_reducible rename News _ _ _ _ => N9); (refine' ⟨_, _, _, _, _, _, _, _, _, rfl, R9, small2 (Nat.le_trans (pkN (by with_reducible assumption)) (by decide)), range2, (by rw [PySem.sizeLine_eq]; exact pkL (by with_reducible assumption)), F9, N9, ?g1, ?g2, ?g3⟩); (case g1 => (intro C a v s₂ m₂ E' hC ha hK hn hm hk; exact wpAny_pure ⟨rfl, _, _, rfl, fun _ _ e => e⟩)); (case' g3 => (intro D9 ys9 h9 tk9 F8 N8 hD9 hl9 hP9 hC9)); (case' g2 => (intro C a v s₂ m₂ E' hC ha hK hz hn hm hk; obtain ⟨t9, e9⟩ := hK; subst e9; have hb9 := pkB (by with_reducible assumption) (by with_reducible assumption) (range2_in ha); have F8 := frInComp hn hk hC; have N8 := N9.grown hk; simp only [List.cons_append, List.nil_append] at N8; (try (((with_reducible refine wpAny_leafK ?_); (try (first | ((with_reducible refine markB ?_); intro _) | ((with_reducible refine markD ?_); intro _))))))))))
  k_with "eval Name" => (k_here; (with_reducible rename News _ _ _ _ => N9); (refine wpAny_Name (wpAny_loadName_free (by rfl) (by rfl) (by rfl) ⟨_, N9.get (by k_mem), by assumption⟩ ?_ (by decide)) (by decide)))
  trivial
noncomputable def markOf (sg : Bool) (u : Int) : Int := if sg = true then (if u < 0 then 13 else 12) else 15
theorem markOf_un {sg : Bool} {u : Int} (h : sg = false) : markOf sg u = 15 := by rw [markOf, if_neg (by rw [h]; decide)]
theorem markOf_neg {sg : Bool} {u : Int} (h : sg = true) (hu : u < 0) : markOf sg u = 13 := by rw [markOf, if_pos h, if_pos hu]
theorem markOf_pos {sg : Bool} {u : Int} (h : sg = true) (hu : ¬ u < 0) : markOf sg u = 12 := by rw [markOf, if_pos h, if_neg hu]
noncomputable def packH (sz : Nat) (sg : Bool) (u : Int) : List Int := figs (if u < 0 then -u else u) (2 * sz - 1) ++ [markOf sg u]
/-- a packed number's octets -/
noncomputable def packOf (sz : Nat) (sg : Bool) (u : Int) : List Int := (rangeInts 0 2 sz).map fun a => 16 * (packH sz sg u).getD a.toNat 0 + (packH sz sg u).getD (a + 1).toNat 0
theorem packH_in {sz : Nat} {sg : Bool} {u : Int} : ∀ z ∈ packH sz sg u, 0 ≤ z ∧ z < 16 := fun z hz => by
  rcases List.mem_append.mp hz with hz | hz
  · have := figs_in z hz; omega
  · rw [List.mem_singleton.mp hz, markOf]
    split
    · split <;> omega
    · omega
theorem getD_in {L : List Int} (h : ∀ z ∈ L, 0 ≤ z ∧ z < 16) (j : Nat) : 0 ≤ L.getD j 0 ∧ L.getD j 0 < 16 := by
  rw [List.getD_eq_getElem?_getD]
  cases e : L[j]? with
  | none => exact ⟨by decide, by decide⟩
  | some z => exact h z (List.mem_of_getElem? e)
theorem packOf_in {sz : Nat} {sg : Bool} {u : Int} : KBa.In (packOf sz sg u) := fun z hz => by
  obtain ⟨a, _, rfl⟩ := List.mem_map.mp hz
  have h1 := getD_in (packH_in (sz := sz) (sg := sg) (u := u)) a.toNat
  have h2 := getD_in (packH_in (sz := sz) (sg := sg) (u := u)) (a + 1).toNat
  omega
theorem packOf_length {sz : Nat} {sg : Bool} {u : Int} : (packOf sz sg u).length = sz := by rw [packOf, List.length_map, rangeInts_length]
theorem packOf_sz {a b : Nat} {sg : Bool} {u : Int} (h : a = b) : byteArr (packOf a sg u) = byteArr (packOf b sg u) := by rw [h]
theorem packOf_made {sz : Nat} {sg : Bool} {u mk : Int} {c n : Nat} {ys : List Value} (hm : markOf sg u = mk) (hc : c = 2 * sz - 1) (hn : n = sz)
    (h : CarriedAll ys (List.map (fun a => PyData.int (16 * (figs (if u < 0 then -u else u) c ++ [mk]).getD a.toNat 0 + (figs (if u < 0 then -u else u) c ++ [mk]).getD (a + 1).toNat 0)) (List.filter (fun _ => true) (rangeInts 0 2 n)))) :
    IntsAre ys (packOf sz sg u) := by
  subst hm hc hn
  rw [List.filter_eq_self.mpr (fun _ _ => rfl)] at h
  exact h.intsOf
theorem kw_15_pack_c : True := by
  k_with "call type:bytes" => (k_dflt (k_here; (with_reducible rename Fr _ _ _ _ => F8); (with_reducible rename News _ _ _ _ => N8); (with_reducible rename CarriedAll _ _ => C8); (with_reducible rename Heap.IsList _ _ _ => I8); (have iZ := packOf_made (by first | exact rfl | exact markOf_neg (by assumption) (by assumption) | exact markOf_pos (by assumption) (by assumption) | exact markOf_un (by assumption)) (pkHalf (by with_reducible assumption)) rfl C8); (refine KBa.make_K F8 N8 rfl I8 iZ packOf_in (by rw [packOf_length]; exact pkL (by with_reducible assumption)) fun h' t' k F' N' _ => ?_)))
  trivial
section
variable {w : World} {mean : ExcName → Option Value} {mg mb : Str → Option Value}
noncomputable abbrev PackedDoes (w : World) (mean : ExcName → Option Value) (mg mb : Str → Option Value) (x dx : Addr) (T : ShT) (S : Sh) (u : Int) (t : Tok) : Prop :=
  Does w mean mg mb 230 3 [.ref x, .int u t] [(x, instObj 133 dx), (dx, dictOf (shapeEs w T (Str.ofString "packed") S) 11)] (fun nw v => nw = [] ∧ ∃ t', v = .bytes (byteArr (packOf S.size.toNat S.signed (keptOf S.digits.toNat S.signed u))) t')
theorem octets_packed_does (x dx : Addr) (T : ShT) (S : Sh) (u : Int) (t : Tok) (h1 : 1 ≤ S.digits) (h2 : S.digits ≤ 18) (h3 : 1 ≤ S.size) (h4 : S.size ≤ 20) : PackedDoes w mean mg mb x dx T S u t := by
  refine unBox ?_
  simp (zetaDelta := true) (disch := (k_dflt (
    refine inBox ?_
    have hA : ∀ u : Int, 0 ≤ (if u < 0 then -u else u) := fun u => by split <;> omega
    have hA := hA (keptOf S.digits.toNat S.signed u)
    have hc : 0 ≤ 2 * S.size - 1 := by omega
    have hc2 : 2 * S.size - 1 ≤ 40 := by omega
    intro dp un gd cn cs a ccd cl outer A₀ base h₀ L m s Q E B F X N T hk hd hu hret
    have cE := InElt.start s.heap
    walk_at "MyEnter"
    repeat ((fail_if_success (with_reducible show wpAny _ _ (exec (Stmt.If (Expr.Attribute _ _ _) _ _ _) _) _ _ _)); (first | k_extra "MyQ" | (k_unfold; (try dsimp only)) | walk1 | (dsimp only; walk1)))
    rename Fr _ _ _ _ => F9
    rename News _ _ _ _ => N9
    refine joinStore (x := Str.ofString "mark") (P := fun v => ∃ t, v = .int (markOf S.signed (keptOf S.digits.toNat S.signed u)) t) F9 N9 ?mk ?go
    case mk =>
      k_steps
      · exact StP.store rfl ⟨_, congrArg (Value.int · _) (markOf_neg (by assumption) (by assumption)).symm⟩ (by assumption) (by assumption)
      · exact StP.store rfl ⟨_, congrArg (Value.int · _) (markOf_pos (by assumption) (by assumption)).symm⟩ (by assumption) (by assumption)
      · exact StP.stay rfl ⟨_, congrArg (Value.int · _) (markOf_un (by assumption)).symm⟩ rfl (by assumption) (by assumption)
    case go =>
      clear F9 N9
      rintro v h9 tk9 ⟨t9, rfl⟩ F9 N9
      k_steps
      refine hret _ _ _ _ (by assumption) (newsTake 0 (by assumption)) ⟨rfl, _, congrArg (Value.bytes · _) (packOf_sz ?_)⟩
      omega
    ))) only [↓Box.of]
end
end
section
theorem kw_16_oct : True := by
  k_with_none
  k_with "MyEnter" => (refine wpAny_call ?_; k_dflt (refine' code_defG ?k1 ?k2 ?k3 ?k4 ?k5 ?kA ?kF ?kK ?k6 ?k7 ?k8 ?k9 ?kB ?_ ?c2 ?c3 ?c4 ?c5; (case kA => exact rfl); (case kF => exact rfl); (case kK => assumption); (case k1 => k_asm); (case k2 => k_asm); (case k3 => k_asm); (case k4 => k_asm); (case k5 => k_asm); (case k6 => k_is); (case k7 => k_is); (case k8 => ktr_room); (case k9 => first | exact BindsTo.of_eq rfl | exact binds_K (by k_in) rfl (by k_is) rfl rfl rfl); (case c5 => decide); (case kB => exact locs rfl); (case c2 => exact rfl); (case c3 => exact rfl); (case c4 => exact rfl); k_whole; intro g' L' h' FG' F' N' B' X' T' kG'; (try dsimp only); (try k_lift B'); (try k_fold)))
  k_with "binaryOp FloorDiv int int" => (k_here; (with_reducible refine floordiv_int ?d0 ?_ (Or.inl ?d1)); (case d0 => first | with_reducible assumption | decide | omega); (case d1 => first | with_reducible assumption | exact PyProof.noPylong_of_log2 (by decide +kernel)))
  k_with "MyKEnter" => ((fail_if_success k_inElt); (refine' code_defC ?k1 ?k2 ?k3 ?k4 ?k5 ?kA ?kF ?kK ?k6 ?k7 ?k8 ?k9 ?kB ?kD ?_ ?c2 ?c3 ?c4; (case kA => exact rfl); (case kF => exact rfl); (case kK => exact rfl); (case k1 => k_asm); (case k2 => k_asm); (case k3 => k_asm); (case k4 => k_asm); (case k5 => k_asm); (case k6 => k_is); (case k7 => k_is); (case k8 => ktr_room); (case k9 => first | exact BindsTo.of_eq rfl | exact binds_K (by k_in) rfl (by k_is) rfl rfl rfl | fail "k_enter: no rule for these arguments"); (case kB => exact rfl); (case kD => decide +kernel); (case c2 => exact rfl); (case c3 => exact rfl); (case c4 => exact rfl); k_whole; intro g' L' h' tk' cells' FG' F' N' Y' B' X' T' l1; (try k_lt l1); k_cells Y'; (try simp only [List.cons_append, List.nil_append] at N'); (try dsimp only); (try k_lift B'); (try k_fold)))
  k_with "MyKEnter" => ((fail_if_success k_inElt); (refine' code_def ?k1 ?k2 ?k3 ?k4 ?k5 ?kA ?kF ?kK ?k6 ?k7 ?k8 ?k9 ?kB ?_ ?c2 ?c3 ?c4 ?c5; (case kA => exact rfl); (case kF => exact rfl); (case kK => exact rfl); (case k1 => k_asm); (case k2 => k_asm); (case k3 => k_asm); (case k4 => k_asm); (case k5 => k_asm); (case k6 => k_is); (case k7 => k_is); (case k8 => ktr_room); (case k9 => first | exact BindsTo.of_eq rfl | exact binds_K (by k_in) rfl (by k_is) rfl rfl rfl | fail "k_enter: no rule for these arguments"); (case c5 => decide); (case kB => exact locs rfl); (case c2 => exact rfl); (case c3 => exact rfl); (case c4 => exact rfl); k_whole; intro g' L' h' FG' F' N' B' X' T'; (try dsimp only); (try k_lift B'); (try k_fold)))
  k_with "MyPre" => first | with_reducible assumption | omega | with_reducible decide | fail "MyPre"
  k_with "execs cons" => ((fail_if_success k_inElt); first | (with_reducible refine consQ (by with_reducible assumption) (fun Q9 hQ9 => ?_)) | (with_reducible refine consQQ (fun Q8 hQ8 Q9 hQ9 => ?_)))
  k_with "execs cons" => (k_made; walk_at "execs cons")
  k_with "execs cons" => ((with_reducible show wpAny _ _ _ _ _ (Shared.mk _ _ _ (@HAdd.hAdd Nat Nat Nat _ _ _) _)); refine stGen s rfl rfl rfl (fun tk9 => ?_); (try dsimp only))
  k_with "MyQ" => ((fail_if_success (with_reducible show wpAny _ _ _ _ _ _)); (with_reducible first | refine qNext (by with_reducible assumption) ?_ | refine qRet (by with_reducible assumption) ?_ | refine qBrk (by with_reducible assumption) ?_ | refine qCont (by with_reducible assumption) ?_ | refine qGen (by with_reducible assumption) ?_); (try dsimp only))
  k_with "MyAll" => first | k_extra "MyQ" | (k_unfold; (try dsimp only)) | (k_end; kc_close) | walk1 | (dsimp only; walk1) | (leave1; walk_say "STEP leave1"; (try dsimp only)) | fail "no step"
  k_with "eval Name" => (k_here; (with_reducible show wpAny _ _ (eval (Expr.Name _ _) (envOf _ _ _ _ _)) _ _ _); k_dflt (refine' ld ?k1 ?k2 ?_ rfl (by kernel_rfl!) (by kernel_rfl!); (case k1 => k_asm); (case k2 => exact rfl); k_whole))
  k_with "MySize" => ((with_reducible show List.length (List.nil) ≤ _); exact Nat.zero_le _)
  k_with "MyKSub" => (intro p77 hp77; (repeat (first | with_reducible exact hp77 | with_reducible refine List.mem_cons_of_mem _ ?_)); done)
  trivial
theorem kw_16_oct_a : True := by
  k_with "call ref" => (k_dflt (k_here; (with_reducible show wpAny _ _ (call (Value.ref 199) _) _ _ _); (fail_if_success k_inElt); k_dflt (refine' Does.use ?k1 ?k2 ?k3 ?k4 ?k5 ?kK (kept_units_does _ _ _ _ _ _ _ ?p0 ?p1) ?kS ?kd ?ku ?_; (case k1 => k_asm); (case k2 => k_asm); (case k3 => k_asm); (case k4 => k_asm); (case k5 => k_asm); (case kK => first | exact rfl | assumption); (case kS => (repeat' (first | exact List.forall_mem_nil _ | (refine List.forall_mem_cons.mpr ⟨?_, ?_⟩) | k_mem | (intro p9 hp9; repeat' (first | exact hp9 | exact List.mem_append_left _ hp9 | exact List.mem_append_right _ hp9 | refine List.Mem.tail _ ?_ | refine List.mem_append_right _ ?_))))); (case kd => ktr_room); (case ku => ktr_units); (case p0 => walk_at "MyPre"); (case p1 => walk_at "MyPre"); k_whole); (intro v9 h9 tk9 nw9 E9 F9 N9 hp9; (obtain ⟨hn9, t9, hv9⟩ := hp9; subst hn9; subst hv9); (try simp only [List.nil_append, List.cons_append] at N9); (try dsimp only); (try k_sweep); (try clear E9))))
  k_with "call ref" => (k_dflt (k_here; (with_reducible show wpAny _ _ (call (Value.ref 211) _) _ _ _); (fail_if_success k_inElt); k_dflt (refine' Does.use ?k1 ?k2 ?k3 ?k4 ?k5 ?kK (display_octets_does _ _ _ _ _ _ _ ?p0 ?p1) ?kS ?kd ?ku ?_; (case k1 => k_asm); (case k2 => k_asm); (case k3 => k_asm); (case k4 => k_asm); (case k5 => k_asm); (case kK => first | exact rfl | assumption); (case kS => (repeat' (first | exact List.forall_mem_nil _ | (refine List.forall_mem_cons.mpr ⟨?_, ?_⟩) | k_mem | (intro p9 hp9; repeat' (first | exact hp9 | exact List.mem_append_left _ hp9 | exact List.mem_append_right _ hp9 | refine List.Mem.tail _ ?_ | refine List.mem_append_right _ ?_))))); (case kd => ktr_room); (case ku => ktr_units); (case p0 => walk_at "MyPre"); (case p1 => walk_at "MyPre"); k_whole); (intro v9 h9 tk9 nw9 E9 F9 N9 hp9; (obtain ⟨hn9, t9, hv9⟩ := hp9; subst hn9; subst hv9); (try simp only [List.nil_append, List.cons_append] at N9); (try dsimp only); (try k_sweep); (try clear E9))))
  k_with "call ref" => (k_dflt (k_here; (with_reducible show wpAny _ _ (call (Value.ref 223) _) _ _ _); (fail_if_success k_inElt); k_dflt (refine' Does.use ?k1 ?k2 ?k3 ?k4 ?k5 ?kK (binary_octets_does _ _ _ _ _ _ _ ?p0 ?p1) ?kS ?kd ?ku ?_; (case k1 => k_asm); (case k2 => k_asm); (case k3 => k_asm); (case k4 => k_asm); (case k5 => k_asm); (case kK => first | exact rfl | assumption); (case kS => (repeat' (first | exact List.forall_mem_nil _ | (refine List.forall_mem_cons.mpr ⟨?_, ?_⟩) | k_mem | (intro p9 hp9; repeat' (first | exact hp9 | exact List.mem_append_left _ hp9 | exact List.mem_append_right _ hp9 | refine List.Mem.tail _ ?_ | refine List.mem_append_right _ ?_))))); (case kd => ktr_room); (case ku => ktr_units); (case p0 => walk_at "MyPre"); (case p1 => walk_at "MyPre"); k_whole); (intro v9 h9 tk9 nw9 E9 F9 N9 hp9; (obtain ⟨hn9, t9, hv9⟩ := hp9; subst hn9; subst hv9); (try simp only [List.nil_append, List.cons_append] at N9); (try dsimp only); (try k_sweep); (try clear E9))))
  trivial
inductive Us where
  | packed | display | binary
noncomputable def Us.str : Us → Str
  | .packed => Str.ofString "packed"
  | .display => Str.ofString "display"
  | .binary => Str.ofString "binary"
/-- a number's octets -/
noncomputable def encOf (U : Us) (S : Sh) (k : Int) : List Int := match U with
  | .packed => packOf S.size.toNat S.signed k
  | .display => dispOf S.digits.toNat S.signed k
  | .binary => figsB 256 (k % 256 ^ S.size.toNat) S.size.toNat
section
variable {w : World} {mean : ExcName → Option Value} {mg mb : Str → Option Value}
theorem octets_display_does (x dx : Addr) (T : ShT) (S : Sh) (u : Int) (t : Tok) (h1 : 1 ≤ S.digits) (h2 : S.digits ≤ 18) :
    Does w mean mg mb 230 3 [.ref x, .int u t] [(x, instObj 133 dx), (dx, dictOf (shapeEs w T (Str.ofString "display") S) 11)] (fun nw v => nw = [] ∧ ∃ t', v = .bytes (byteArr (dispOf S.digits.toNat S.signed (keptOf S.digits.toNat S.signed u))) t') := by
  refine unBox ?_
  simp (zetaDelta := true) (disch := (k_dflt (
    refine inBox ?_
    intro dp un gd cn cs a ccd cl outer A₀ base h₀ L m s Q E B F X N T hk hd hu hret
    have cE := InElt.start s.heap
    walk_at "MyEnter"
    k_steps
    exact hret _ _ _ _ (by assumption) (newsTake 0 (by assumption)) ⟨rfl, _, rfl⟩
    ))) only [↓Box.of]
theorem octets_binary_does (x dx : Addr) (T : ShT) (S : Sh) (u : Int) (t : Tok) (h1 : 1 ≤ S.digits) (h2 : S.digits ≤ 18) (h3 : 1 ≤ S.size) (h4 : S.size ≤ 40) :
    Does w mean mg mb 230 3 [.ref x, .int u t] [(x, instObj 133 dx), (dx, dictOf (shapeEs w T (Str.ofString "binary") S) 11)] (fun nw v => nw = [] ∧ ∃ t', v = .bytes (byteArr (figsB 256 (keptOf S.digits.toNat S.signed u % 256 ^ S.size.toNat) S.size.toNat)) t') := by
  refine unBox ?_
  simp (zetaDelta := true) (disch := (k_dflt (
    refine inBox ?_
    intro dp un gd cn cs a ccd cl outer A₀ base h₀ L m s Q E B F X N T hk hd hu hret
    have cE := InElt.start s.heap
    walk_at "MyEnter"
    k_steps
    exact hret _ _ _ _ (by assumption) (newsTake 0 (by assumption)) ⟨rfl, _, rfl⟩
    ))) only [↓Box.of]
theorem octets_for_does (x dx : Addr) (T : ShT) (U : Us) (S : Sh) (u : Int) (t : Tok) (h1 : 1 ≤ S.digits) (h2 : S.digits ≤ 18) (h3 : 1 ≤ S.size) (h4 : S.size ≤ 20) :
    Does w mean mg mb 230 3 [.ref x, .int u t] [(x, instObj 133 dx), (dx, dictOf (shapeEs w T U.str S) 11)] (fun nw v => nw = [] ∧ ∃ t', v = .bytes (byteArr (encOf U S (keptOf S.digits.toNat S.signed u))) t') := by
  cases U with
  | packed => exact octets_packed_does x dx T S u t h1 h2 h3 h4
  | display => exact octets_display_does x dx T S u t h1 h2
  | binary => exact octets_binary_does x dx T S u t h1 h2 h3 (by omega)
end
theorem kw_16_oct_b : True := by
  k_with "call ref" => (k_dflt (k_here; (with_reducible show wpAny _ _ (call (Value.ref 230) _) _ _ _); (fail_if_success k_inElt); k_dflt (refine' Does.use ?k1 ?k2 ?k3 ?k4 ?k5 ?kK (octets_for_does _ _ _ _ _ _ _ ?p0 ?p1 ?p2 ?p3) ?kS ?kd ?ku ?_; (case k1 => k_asm); (case k2 => k_asm); (case k3 => k_asm); (case k4 => k_asm); (case k5 => k_asm); (case kK => first | exact rfl | assumption); (case kS => (repeat' (first | exact List.forall_mem_nil _ | (refine List.forall_mem_cons.mpr ⟨?_, ?_⟩) | k_mem | (intro p9 hp9; repeat' (first | exact hp9 | exact List.mem_append_left _ hp9 | exact List.mem_append_right _ hp9 | refine List.Mem.tail _ ?_ | refine List.mem_append_right _ ?_))))); (case kd => ktr_room); (case ku => ktr_units); (case p0 => walk_at "MyPre"); (case p1 => walk_at "MyPre"); (case p2 => walk_at "MyPre"); (case p3 => walk_at "MyPre"); k_whole); (intro v9 h9 tk9 nw9 E9 F9 N9 hp9; (obtain ⟨hn9, t9, hv9⟩ := hp9; subst hn9; subst hv9); (try simp only [List.nil_append, List.cons_append] at N9); (try dsimp only); (try k_sweep); (try clear E9))))
  k_with "call ref" => (k_dflt (k_here; (with_reducible show wpAny _ _ (call (Value.ref 36) _) _ _ _); (fail_if_success k_inElt); k_dflt (refine' Does.use ?k1 ?k2 ?k3 ?k4 ?k5 ?kK (units_at_does _ _ _ _ _ _ _ _ ?p0 ?p1 ?p2 ?p3 ?p4) ?kS ?kd ?ku ?_; (case k1 => k_asm); (case k2 => k_asm); (case k3 => k_asm); (case k4 => k_asm); (case k5 => k_asm); (case kK => first | exact rfl | assumption); (case kS => (repeat' (first | exact List.forall_mem_nil _ | (refine List.forall_mem_cons.mpr ⟨?_, ?_⟩) | k_mem | (intro p9 hp9; repeat' (first | exact hp9 | exact List.mem_append_left _ hp9 | exact List.mem_append_right _ hp9 | refine List.Mem.tail _ ?_ | refine List.mem_append_right _ ?_))))); (case kd => ktr_room); (case ku => ktr_units); (case p0 => walk_at "MyPre"); (case p1 => walk_at "MyPre"); (case p2 => walk_at "MyPre"); (case p3 => walk_at "MyPre"); (case p4 => walk_at "MyPre"); k_whole); (intro v9 h9 tk9 nw9 E9 F9 N9 hp9; (obtain ⟨hn9, t9, hv9⟩ := hp9; subst hn9; subst hv9); (try simp only [List.nil_append, List.cons_append] at N9); (try dsimp only); (try k_sweep); (try clear E9))))
  trivial
section
variable {w : World} {mean : ExcName → Option Value} {mg mb : Str → Option Value}
theorem cut_octets_does (x dx : Addr) (T : ShT) (U : Us) (S : Sh) (q : Addr) (kk : Nat) (u sc : Int) (tu ts : Tok) (h1 : 1 ≤ S.digits) (h2 : S.digits ≤ 18) (h3 : 1 ≤ S.size) (h4 : S.size ≤ 20) (h5 : -5 ≤ S.scale) (h6 : S.scale ≤ 20)
    (h7 : u.natAbs < 10 ^ 30) (h8 : 0 ≤ sc) (h9 : sc ≤ 20) :
    Does w mean mg mb 291 4 [.ref x, .ref q] [(x, instObj 133 dx), (dx, dictOf (shapeEs w T U.str S) 11), (q, tupOf [.int u tu, .int sc ts] kk)]
      (fun nw v => nw = [] ∧ ∃ t', v = .bytes (byteArr (encOf U S (keptOf S.digits.toNat S.signed (unitsAt u sc S.scale)))) t') := by
  refine unBox ?_
  simp (zetaDelta := true) (disch := (k_dflt (
    refine inBox ?_
    intro dp un gd cn cs a ccd cl outer A₀ base h₀ L m s Q E B F X N T hk hd hu hret
    have cE := InElt.start s.heap
    walk_at "MyEnter"
    k_steps
    exact hret _ _ _ _ (by assumption) (newsTake 0 (by assumption)) ⟨rfl, _, rfl⟩
    ))) only [↓Box.of]
end
end
section
theorem kw_20_join : True := by
  k_with_none
  k_with "MyEnter" => (refine wpAny_call ?_; k_dflt (refine' code_defG ?k1 ?k2 ?k3 ?k4 ?k5 ?kA ?kF ?kK ?k6 ?k7 ?k8 ?k9 ?kB ?_ ?c2 ?c3 ?c4 ?c5; (case kA => exact rfl); (case kF => exact rfl); (case kK => assumption); (case k1 => k_asm); (case k2 => k_asm); (case k3 => k_asm); (case k4 => k_asm); (case k5 => k_asm); (case k6 => k_is); (case k7 => k_is); (case k8 => ktr_room); (case k9 => first | exact BindsTo.of_eq rfl | exact binds_K (by k_in) rfl (by k_is) rfl rfl rfl); (case c5 => decide); (case kB => exact locs rfl); (case c2 => exact rfl); (case c3 => exact rfl); (case c4 => exact rfl); k_whole; intro g' L' h' FG' F' N' B' X' T' kG'; (try dsimp only); (try k_lift B'); (try k_fold)))
  k_with "binaryOp FloorDiv int int" => (k_here; (with_reducible refine floordiv_int ?d0 ?_ (Or.inl ?d1)); (case d0 => first | with_reducible assumption | decide | omega); (case d1 => first | with_reducible assumption | exact PyProof.noPylong_of_log2 (by decide +kernel)))
  k_with "MyKEnter" => ((fail_if_success k_inElt); (refine' code_defC ?k1 ?k2 ?k3 ?k4 ?k5 ?kA ?kF ?kK ?k6 ?k7 ?k8 ?k9 ?kB ?kD ?_ ?c2 ?c3 ?c4; (case kA => exact rfl); (case kF => exact rfl); (case kK => exact rfl); (case k1 => k_asm); (case k2 => k_asm); (case k3 => k_asm); (case k4 => k_asm); (case k5 => k_asm); (case k6 => k_is); (case k7 => k_is); (case k8 => ktr_room); (case k9 => first | exact BindsTo.of_eq rfl | exact binds_K (by k_in) rfl (by k_is) rfl rfl rfl | fail "k_enter: no rule for these arguments"); (case kB => exact rfl); (case kD => decide +kernel); (case c2 => exact rfl); (case c3 => exact rfl); (case c4 => exact rfl); k_whole; intro g' L' h' tk' cells' FG' F' N' Y' B' X' T' l1; (try k_lt l1); k_cells Y'; (try simp only [List.cons_append, List.nil_append] at N'); (try dsimp only); (try k_lift B'); (try k_fold)))
  k_with "MyKEnter" => ((fail_if_success k_inElt); (refine' code_def ?k1 ?k2 ?k3 ?k4 ?k5 ?kA ?kF ?kK ?k6 ?k7 ?k8 ?k9 ?kB ?_ ?c2 ?c3 ?c4 ?c5; (case kA => exact rfl); (case kF => exact rfl); (case kK => exact rfl); (case k1 => k_asm); (case k2 => k_asm); (case k3 => k_asm); (case k4 => k_asm); (case k5 => k_asm); (case k6 => k_is); (case k7 => k_is); (case k8 => ktr_room); (case k9 => first | exact BindsTo.of_eq rfl | exact binds_K (by k_in) rfl (by k_is) rfl rfl rfl | fail "k_enter: no rule for these arguments"); (case c5 => decide); (case kB => exact locs rfl); (case c2 => exact rfl); (case c3 => exact rfl); (case c4 => exact rfl); k_whole; intro g' L' h' FG' F' N' B' X' T'; (try dsimp only); (try k_lift B'); (try k_fold)))
  k_with "MyPre" => first | with_reducible assumption | omega | with_reducible decide | fail "MyPre"
  k_with "execs cons" => ((fail_if_success k_inElt); first | (with_reducible refine consQ (by with_reducible assumption) (fun Q9 hQ9 => ?_)) | (with_reducible refine consQQ (fun Q8 hQ8 Q9 hQ9 => ?_)))
  k_with "execs cons" => (k_made; walk_at "execs cons")
  k_with "execs cons" => ((with_reducible show wpAny _ _ _ _ _ (Shared.mk _ _ _ (@HAdd.hAdd Nat Nat Nat _ _ _) _)); refine stGen s rfl rfl rfl (fun tk9 => ?_); (try dsimp only))
  k_with "MyQ" => ((fail_if_success (with_reducible show wpAny _ _ _ _ _ _)); (with_reducible first | refine qNext (by with_reducible assumption) ?_ | refine qRet (by with_reducible assumption) ?_ | refine qBrk (by with_reducible assumption) ?_ | refine qCont (by with_reducible assumption) ?_ | refine qGen (by with_reducible assumption) ?_); (try dsimp only))
  k_with "MyAll" => first | k_extra "MyQ" | (k_unfold; (try dsimp only)) | (k_end; kc_close) | walk1 | (dsimp only; walk1) | (leave1; walk_say "STEP leave1"; (try dsimp only)) | fail "no step"
  k_with "eval Name" => (k_here; (with_reducible show wpAny _ _ (eval (Expr.Name _ _) (envOf _ _ _ _ _)) _ _ _); k_dflt (refine' ld ?k1 ?k2 ?_ rfl (by kernel_rfl!) (by kernel_rfl!); (case k1 => k_asm); (case k2 => exact rfl); k_whole))
  k_with "MySize" => ((with_reducible show List.length (List.nil) ≤ _); exact Nat.zero_le _)
  k_with "MyKSub" => (intro p77 hp77; (repeat (first | with_reducible exact hp77 | with_reducible refine List.mem_cons_of_mem _ ?_)); done)
  trivial
noncomputable def joinF (L : List Int) : Int := L.foldl (fun a f => 10 * a + f) 0
theorem joinF_snoc (L : List Int) (f : Int) : joinF (L ++ [f]) = 10 * joinF L + f := by rw [joinF, List.foldl_append]; rfl
theorem joinF_take {L : List Int} {i : Nat} {f : Int} (h : L[i]? = some f) : joinF (L.take (i + 1)) = 10 * joinF (L.take i) + f := by rw [List.take_add_one, h]; exact joinF_snoc _ _
/-- between the turns: found -/
noncomputable def JoinI (L : List Int) (i : Nat) (m : Str → Option Value) : Prop := ∃ t : Tok, m (Str.ofString "found") = some (.int (joinF (L.take i)) t)
theorem frSays {h₀ h : Heap} {L : Addr} {m : Str → Option Value} {x : Str} {v : Value} (F : Fr h₀ L h m) (e : m x = some v) : Fr h₀ L h (fun z => if z = x then some v else m z) := by
  have em : (fun z => if z = x then some v else m z) = m := by
    funext z
    by_cases hz : z = x
    · rw [if_pos hz, hz, e]
    · rw [if_neg hz]
  rw [em]; exact F
theorem kw_20_join_a : True := by
  k_with "call type:enumerate" => (k_dflt (k_here; (with_reducible rename News _ _ _ _ => N9); (with_reducible rename Fr _ _ _ _ => F9); (refine PySem.call_enumerate_1 (N9.get (by k_mem)) (fun h' he hit hz hk => ?_)); (have q1 := Heap.lt_size (N9.get (by k_mem))); (have q2 := F9.ns.lt); (have F8 := F9.keeps hk); (have N8 := N9.grown hk); (refine PyProof.Rows.CompPack.intro ?_)))
  k_with "storeName" => (k_dflt (k_here; (with_reducible rename KstMark => M9); (with_reducible rename Fr _ _ _ _ => F9); (refine wpAny_storeName_local (by rfl) F9.ns (fun h' hn hs => ?_) (by rfl)); clear M9))
  trivial
theorem frBeyond {g h1 h2 : Heap} {L I e : Addr} {m m' : Str → Option Value} (F : Fr g L h1 m) (hI : @LT.lt Nat _ L I) (he : @LT.lt Nat _ I e) (hns : h2.Ns L m') (hk : ∀ b o, b ≠ L → b ≠ e → b ≠ I → h1.get? b = some o → h2.get? b = some o) : Fr g L h2 m' :=
  have hb : ∀ b o, g.get? b = some o → @LT.lt Nat _ b L := fun b o q => Nat.lt_of_lt_of_le (Heap.lt_size q) F.above
  ⟨hns, fun b o q => hk b o (Nat.ne_of_lt (hb b o q)) (Nat.ne_of_lt (Nat.lt_trans (Nat.lt_trans (hb b o q) hI) he)) (Nat.ne_of_lt (Nat.lt_trans (hb b o q) hI)) (F.keep b o q), F.above⟩
theorem newsBeyond {g h1 h2 : Heap} {L I e r : Addr} {o : Obj} (N : News g L h1 [(r, o)]) (hI : @LT.lt Nat _ r I) (he : @LT.lt Nat _ I e) (hk : ∀ b o, b ≠ L → b ≠ e → b ≠ I → h1.get? b = some o → h2.get? b = some o) : News g L h2 [(r, o)] := fun p hp => by
  have z := N p hp
  have e1 := List.mem_singleton.mp hp
  subst e1
  exact ⟨hk _ _ z.2.1 (Nat.ne_of_lt (Nat.lt_trans hI he)) (Nat.ne_of_lt hI) z.1, z.2⟩
theorem frBare {h : Heap} {L : Addr} {m : Str → Option Value} (n : h.Ns L m) : Fr ({} : Heap) L h m := ⟨n, fun b o e => absurd (Heap.lt_size e) (Nat.not_lt_zero _), Nat.zero_le _⟩
section
variable {w : World} {mean : ExcName → Option Value} {mg mb : Str → Option Value}
theorem joined_figures_does (r : Addr) (vs : List Value) (n : Nat) (L : List Int) (hi : IntsAre vs L) (hL : ∀ z ∈ L, 0 ≤ z ∧ z < 10) (hn : L.length ≤ 40) :
    Does w mean mg mb 237 1 [.ref r] [(r, listOf vs.toArray n)] (fun nw v => nw = [] ∧ ∃ t', v = .int (joinF L) t') := by
  refine unBox ?_
  simp (zetaDelta := true) (disch := (k_dflt (
    refine inBox ?_
    intro dp un gd cn cs a ccd cl outer A₀ base h₀ L' m s Q E B F X N T hk hd hu hret
    have cE := InElt.start s.heap
    walk_at "MyEnter"
    repeat ((fail_if_success (with_reducible show wpAny _ _ (exec (Stmt.For _ _ _ _ _) _) _ _ _)); (first | k_extra "MyQ" | (k_unfold; (try dsimp only)) | walk1 | (dsimp only; walk1)))
    refine PySem.wpAny_For_enum_locals rfl rfl rfl rfl ?_ (by intro _; rfl) ?hE
    case hE => k_steps
    iterate 7 (first | k_extra "MyQ" | (k_unfold; (try dsimp only)) | walk1 | (dsimp only; walk1))
    rename News _ _ _ _ => N8
    rename Fr _ _ _ _ => F8
    rename IsEnum _ _ _ _ _ => he
    rename Heap.IsListIter _ _ _ _ => hit
    have hlen := hi.length
    refine ⟨_, _, r, vs.toArray, _, JoinI L, rfl, ?n1, ?n2, ?n3, (N8 _ (List.mem_cons_self ..)).2.1, ?n4, ?n5, he, hit, (News.isList N8 (List.mem_cons_self ..)), F8.ns, ⟨_, rfl⟩, ?step, ?done⟩
    case n1 => exact Nat.succ_ne_self _
    case n2 => exact Nat.ne_of_gt (Nat.lt_succ_of_lt (by assumption))
    case n3 => exact Nat.ne_of_gt (by assumption)
    case n4 => exact Nat.ne_of_lt (Nat.lt_succ_of_lt (by assumption))
    case n5 => exact Nat.ne_of_lt (by assumption)
    case step =>
      clear F8 N8 he hit
      rintro i v tk m₁ s₂ hv ⟨t0, hJ⟩ hns
      obtain ⟨f, tf, rfl, hf⟩ := IntsAre.at hi i v (by simpa using hv)
      have hf9 := hL f (List.mem_of_getElem? hf)
      have F2 := frSays (frBare hns) (x := Str.ofString "found") hJ
      have kMark := kstMark
      refine PyProof.Rows.wpAny_compPack ?_
      (try k_fold)
      k_steps
      exact PyProof.Rows.CompPack.intro ⟨rfl, ⟨_, _, rfl, by assumption⟩, _, by assumption, _, congrArg (fun z => some (Value.int z _)) (joinF_take hf).symm⟩
    case done =>
      rintro h2 tk2 m' hns ⟨t0, hJ⟩ hk2
      have F3 := frSays (x := Str.ofString "found") (frBeyond F8 (by assumption) (Nat.lt_succ_self _) hns hk2) hJ
      have N3 := newsBeyond N8 (by assumption) (Nat.lt_succ_self _) hk2
      clear F8 N8 he hit
      (try k_fold)
      k_steps
      refine hret _ _ _ _ (by assumption) (newsTake 0 (by assumption)) ⟨rfl, _, congrArg (Value.int · _) ?_⟩
      rw [List.size_toArray, hlen, List.take_length]
    ))) only [↓Box.of]
end
end
section
theorem kw_21_sig : True := by
  k_with_none
  k_with "MyEnter" => (refine wpAny_call ?_; k_dflt (refine' code_defG ?k1 ?k2 ?k3 ?k4 ?k5 ?kA ?kF ?kK ?k6 ?k7 ?k8 ?k9 ?kB ?_ ?c2 ?c3 ?c4 ?c5; (case kA => exact rfl); (case kF => exact rfl); (case kK => assumption); (case k1 => k_asm); (case k2 => k_asm); (case k3 => k_asm); (case k4 => k_asm); (case k5 => k_asm); (case k6 => k_is); (case k7 => k_is); (case k8 => ktr_room); (case k9 => first | exact BindsTo.of_eq rfl | exact binds_K (by k_in) rfl (by k_is) rfl rfl rfl); (case c5 => decide); (case kB => exact locs rfl); (case c2 => exact rfl); (case c3 => exact rfl); (case c4 => exact rfl); k_whole; intro g' L' h' FG' F' N' B' X' T' kG'; (try dsimp only); (try k_lift B'); (try k_fold)))
  k_with "binaryOp FloorDiv int int" => (k_here; (with_reducible refine floordiv_int ?d0 ?_ (Or.inl ?d1)); (case d0 => first | with_reducible assumption | decide | omega); (case d1 => first | with_reducible assumption | exact PyProof.noPylong_of_log2 (by decide +kernel)))
  k_with "MyKEnter" => ((fail_if_success k_inElt); (refine' code_defC ?k1 ?k2 ?k3 ?k4 ?k5 ?kA ?kF ?kK ?k6 ?k7 ?k8 ?k9 ?kB ?kD ?_ ?c2 ?c3 ?c4; (case kA => exact rfl); (case kF => exact rfl); (case kK => exact rfl); (case k1 => k_asm); (case k2 => k_asm); (case k3 => k_asm); (case k4 => k_asm); (case k5 => k_asm); (case k6 => k_is); (case k7 => k_is); (case k8 => ktr_room); (case k9 => first | exact BindsTo.of_eq rfl | exact binds_K (by k_in) rfl (by k_is) rfl rfl rfl | fail "k_enter: no rule for these arguments"); (case kB => exact rfl); (case kD => decide +kernel); (case c2 => exact rfl); (case c3 => exact rfl); (case c4 => exact rfl); k_whole; intro g' L' h' tk' cells' FG' F' N' Y' B' X' T' l1; (try k_lt l1); k_cells Y'; (try simp only [List.cons_append, List.nil_append] at N'); (try dsimp only); (try k_lift B'); (try k_fold)))
  k_with "MyKEnter" => ((fail_if_success k_inElt); (refine' code_def ?k1 ?k2 ?k3 ?k4 ?k5 ?kA ?kF ?kK ?k6 ?k7 ?k8 ?k9 ?kB ?_ ?c2 ?c3 ?c4 ?c5; (case kA => exact rfl); (case kF => exact rfl); (case kK => exact rfl); (case k1 => k_asm); (case k2 => k_asm); (case k3 => k_asm); (case k4 => k_asm); (case k5 => k_asm); (case k6 => k_is); (case k7 => k_is); (case k8 => ktr_room); (case k9 => first | exact BindsTo.of_eq rfl | exact binds_K (by k_in) rfl (by k_is) rfl rfl rfl | fail "k_enter: no rule for these arguments"); (case c5 => decide); (case kB => exact locs rfl); (case c2 => exact rfl); (case c3 => exact rfl); (case c4 => exact rfl); k_whole; intro g' L' h' FG' F' N' B' X' T'; (try dsimp only); (try k_lift B'); (try k_fold)))
  k_with "MyPre" => first | with_reducible assumption | omega | with_reducible decide | fail "MyPre"
  k_with "execs cons" => ((fail_if_success k_inElt); first | (with_reducible refine consQ (by with_reducible assumption) (fun Q9 hQ9 => ?_)) | (with_reducible refine consQQ (fun Q8 hQ8 Q9 hQ9 => ?_)))
  k_with "execs cons" => (k_made; walk_at "execs cons")
  k_with "execs cons" => ((with_reducible show wpAny _ _ _ _ _ (Shared.mk _ _ _ (@HAdd.hAdd Nat Nat Nat _ _ _) _)); refine stGen s rfl rfl rfl (fun tk9 => ?_); (try dsimp only))
  k_with "MyQ" => ((fail_if_success (with_reducible show wpAny _ _ _ _ _ _)); (with_reducible first | refine qNext (by with_reducible assumption) ?_ | refine qRet (by with_reducible assumption) ?_ | refine qBrk (by with_reducible assumption) ?_ | refine qCont (by with_reducible assumption) ?_ | refine qGen (by with_reducible assumption) ?_); (try dsimp only))
  k_with "MyAll" => first | k_extra "MyQ" | (k_unfold; (try dsimp only)) | (k_end; kc_close) | walk1 | (dsimp only; walk1) | (leave1; walk_say "STEP leave1"; (try dsimp only)) | fail "no step"
  k_with "eval Name" => (k_here; (with_reducible show wpAny _ _ (eval (Expr.Name _ _) (envOf _ _ _ _ _)) _ _ _); k_dflt (refine' ld ?k1 ?k2 ?_ rfl (by kernel_rfl!) (by kernel_rfl!); (case k1 => k_asm); (case k2 => exact rfl); k_whole))
  k_with "MySize" => ((with_reducible show List.length (List.nil) ≤ _); exact Nat.zero_le _)
  k_with "MyKSub" => (intro p77 hp77; (repeat (first | with_reducible exact hp77 | with_reducible refine List.mem_cons_of_mem _ ?_)); done)
  trivial
section
open PySem.Builtin
theorem slot_bindex : Slot "bytes" "index" "bytes.index" :=
  .of (owner := "bytes") (n := "index") (by rw [typeLookup_type, builtinLookup_eq_fast]; kernel_rfl) (by decide +kernel) (by decide +kernel) (by decide +kernel)
    (by first | exact .inl (by decide +kernel) | exact .inr (by decide +kernel)) (by rw [isSubtype_type]; kernel_rfl)
theorem type_bindex : typeOf (.builtin "bytes.index") = pure (.type "method_descriptor") := by show builtinType _ = _; rw [builtinType_eq_fast]; kernel_rfl
theorem entry_bindex : entryFor table "bytes.index" = some Builtin.«bytes.index» := entryFor_of_tree (by kernel_rfl)
theorem args_bindex (a b : Value) : argsOk "bytes.index" ⟨[a, b], []⟩ := by
  unfold argsOk; rw [signature?_of (id := "bytes.index") (n := ['x', 'e', 'd', 'n', 'i']) (o := ['s', 'e', 't', 'y', 'b']) (by kernel_rfl) FB.owner_bytes]; kernel_rfl
theorem int_no_buffer : typeLookup (.type "int") "__buffer__" = pure none := by rw [typeLookup_type, builtinLookup_eq_fast]; kernel_rfl
theorem gives_bcontains (b : Array UInt8) (i : Int) (t u : Tok) (h0 : 0 ≤ i) (h1 : i < 256) : Gives («bytes.__contains__» ⟨[.bytes b t, .int i u], []⟩) (.val (.bool (b.contains i.toNat.toUInt8))) := by
  refine .of_wp fun M A E s Q hq => ?_
  show wpAny M A (Bytes.containsIn "bytes.__contains__" (.bytes b t) (.int i u) >>= fun r => _) _ E s
  refine wpAny_bind ?_
  show wpAny M A ((asIndex (.int i u)).attempt >>= fun r => _) _ E s
  refine wpAny_bind (wpAny_of_eq (a := Except.ok i) rfl ?_)
  refine wpAny_bind (wpAny_of_eq KBy.buffer_eq ?_)
  show wpAny M A (if (decide (i < 0) || decide (i ≥ 256)) = true then _ else _) _ E s
  rw [if_neg (by rw [decide_eq_false (by omega), decide_eq_false (by omega)]; decide)]
  exact wpAny_pure (wpAny_pure ⟨_, rfl, hq⟩)
theorem int_noBuf {id : String} {i : Int} {u : Tok} : Bytes.buffer? id (.int i u) = pure none := by
  unfold Bytes.buffer?
  have e : specialOf (.int i u) "__buffer__" = pure none := by
    have e : specialOf (.int i u) "__buffer__" = typeLookup (.type "int") "__buffer__" := rfl
    rw [e, int_no_buffer]
  rw [e]; rfl
theorem gives_bindex (b : Array UInt8) (i : Int) (j : Nat) (t u : Tok) (h0 : 0 ≤ i) (h1 : i < 256) (hb : 1 ≤ b.size) (hj : Bytes.find? b #[i.toNat.toUInt8] 0 b.size = some j) : Gives («bytes.index» ⟨[.bytes b t, .int i u], []⟩) (.int j) := by
  refine .of_wp fun M A E s Q hq => ?_
  show wpAny M A (Bytes.searchArgs .bytes "index" ⟨[.bytes b t, .int i u], []⟩ >>= fun r => _) _ E s
  refine wpAny_bind ?_
  refine wpAny_bind (wpAny_of_eq (a := (.bytes b t, [.int i u])) rfl ?_)
  refine wpAny_bind (wpAny_of_eq (a := none) rfl ?_)
  refine wpAny_bind (wpAny_of_eq (a := none) rfl ?_)
  refine wpAny_bind (wpAny_of_eq int_noBuf ?_)
  refine wpAny_bind (wpAny_specialOf (T := "int") (typeIs_int _ _ _) F.slot_int_index.lookup ?_)
  refine wpAny_ite ?_
  rw [if_neg (by decide)]
  refine wpAny_bind (wpAny_of_eq (a := i) rfl ?_)
  show wpAny M A (if (decide (i < 0) || decide (i ≥ 256)) = true then _ else _) _ E s
  rw [if_neg (by rw [decide_eq_false (by omega), decide_eq_false (by omega)]; decide)]
  refine wpAny_bind (wpAny_pure ?_)
  refine wpAny_bind (wpAny_of_eq (a := b) rfl ?_)
  have hw : Bytes.window b.size none none = (0, (b.size : Int)) := by
    unfold Bytes.window
    simp only [Option.getD_none]
    rw [if_neg (by omega)]
    exact congrArg (Prod.mk _) (by omega)
  rw [hw]
  refine wpAny_pure ?_
  have hs : ¬ ((b.size : Int) - 0 < ((#[i.toNat.toUInt8] : Array UInt8).size : Int)) := by show ¬ ((b.size : Int) - 0 < (1 : Int)); omega
  simp only [if_neg hs, Option.bind_some]
  show wpAny M A (match Bytes.find? b #[i.toNat.toUInt8] 0 (Int.toNat b.size) with | some i => _ | none => _) _ E s
  rw [Int.toNat_natCast, hj]
  exact wpAny_bind (wpAny_mkInt (wpAny_pure ⟨_, rfl, hq⟩))
end
section
variable {prog : Program} {w : World} {A : Around} {E : Value → Shared → Prop} {s : Shared} {b : Array UInt8} {i : Int} {j : Nat} {t u : Tok} {Q : Value → Shared → Prop}
theorem in_bytes (h0 : 0 ≤ i) (h1 : i < 256) (h : Q (.bool (b.contains i.toNat.toUInt8)) s) : wpAny (model prog w) A (compareOp .In (.int i u) (.bytes b t)) Q E s :=
  in_gives (typeIs_bytes s b t) FB.slot_bytes_contains FB.entry_bytes_contains (FB.args_bytes_contains_2 _ _) (gives_bcontains b i t u h0 h1) h
theorem index_method {pl : Sem Bool} {Q : Value × List Value → Shared → Prop} (h : Q (.builtin "bytes.index", [.bytes b t]) s) : wpAny (model prog w) A (getMethod (.bytes b t) "index" pl) Q E s :=
  getMethod_builtin (typeIs_bytes s b t) FB.plainAttrs_bytes slot_bindex type_bindex (fun _ e => nomatch e) h
theorem index_bytes (h0 : 0 ≤ i) (h1 : i < 256) (hb : 1 ≤ b.size) (hj : PySem.Builtin.Bytes.find? b #[i.toNat.toUInt8] 0 b.size = some j) (hq : Q (.int j s.toks) { s with toks := s.toks + 1 }) : wpAny (model prog w) A (call (.builtin "bytes.index") [.bytes b t, .int i u]) Q E s :=
  call_gives slot_bindex (typeIs_bytes _ _ _) entry_bindex (args_bindex _ _) (gives_bindex b i j t u h0 h1 hb hj) hq
end

theorem kw_21_sig_a : True := by
  k_with "compareOp In int bytes" => (k_dflt (k_here; (refine in_bytes (by assumption) (by assumption) ?_); (first | rw [show Array.contains _ _ = true by assumption] | rw [show Array.contains _ _ = false by assumption])))
  k_with "getMethod bytes" => (k_dflt (k_here; (with_reducible refine index_method ?_)))
  k_with "call builtin:bytes.index" => (k_dflt (k_here; (refine index_bytes (by assumption) (by assumption) (by decide) (by assumption) ?_)))
  trivial
noncomputable abbrev plusRow : List UInt8 := [123, 65, 66, 67, 68, 69, 70, 71, 72, 73]
noncomputable abbrev minusRow : List UInt8 := [125, 74, 75, 76, 77, 78, 79, 80, 81, 82]
section
variable {w : World} {mean : ExcName → Option Value} {mg mb : Str → Option Value}
theorem signed_plus_does (c : Int) (t : Tok) (j : Nat) (h0 : 0 ≤ c) (h1 : c < 256) (hp : plusRow.toArray.contains c.toNat.toUInt8 = true) (hj : PySem.Builtin.Bytes.find? plusRow.toArray #[c.toNat.toUInt8] 0 10 = some j) :
    Does w mean mg mb 244 1 [.int c t] [] (fun nw v => ∃ r n t', nw = [(r, tupOf [.int j t', .bool false] n)] ∧ v = .ref r) := by
  refine unBox ?_
  simp (zetaDelta := true) (disch := (k_dflt (
    refine inBox ?_
    intro dp un gd cn cs a ccd cl outer A₀ base h₀ L' m s Q E B F X N T hk hd hu hret
    have cE := InElt.start s.heap
    walk_at "MyEnter"
    k_steps
    exact hret _ _ _ _ (by assumption) (newsTake 1 (by assumption)) ⟨_, _, _, rfl, rfl⟩
    ))) only [↓Box.of]
theorem signed_minus_does (c : Int) (t : Tok) (j : Nat) (h0 : 0 ≤ c) (h1 : c < 256) (hp : plusRow.toArray.contains c.toNat.toUInt8 = false) (hm : minusRow.toArray.contains c.toNat.toUInt8 = true) (hj : PySem.Builtin.Bytes.find? minusRow.toArray #[c.toNat.toUInt8] 0 10 = some j) :
    Does w mean mg mb 244 1 [.int c t] [] (fun nw v => ∃ r n t', nw = [(r, tupOf [.int j t', .bool true] n)] ∧ v = .ref r) := by
  refine unBox ?_
  simp (zetaDelta := true) (disch := (k_dflt (
    refine inBox ?_
    intro dp un gd cn cs a ccd cl outer A₀ base h₀ L' m s Q E B F X N T hk hd hu hret
    have cE := InElt.start s.heap
    walk_at "MyEnter"
    k_steps
    exact hret _ _ _ _ (by assumption) (newsTake 1 (by assumption)) ⟨_, _, _, rfl, rfl⟩
    ))) only [↓Box.of]
end
end
section
theorem kw_22_disp : True := by
  k_with_none
  k_with "MyEnter" => (refine wpAny_call ?_; k_dflt (refine' code_defG ?k1 ?k2 ?k3 ?k4 ?k5 ?kA ?kF ?kK ?k6 ?k7 ?k8 ?k9 ?kB ?_ ?c2 ?c3 ?c4 ?c5; (case kA => exact rfl); (case kF => exact rfl); (case kK => assumption); (case k1 => k_asm); (case k2 => k_asm); (case k3 => k_asm); (case k4 => k_asm); (case k5 => k_asm); (case k6 => k_is); (case k7 => k_is); (case k8 => ktr_room); (case k9 => first | exact BindsTo.of_eq rfl | exact binds_K (by k_in) rfl (by k_is) rfl rfl rfl); (case c5 => decide); (case kB => exact locs rfl); (case c2 => exact rfl); (case c3 => exact rfl); (case c4 => exact rfl); k_whole; intro g' L' h' FG' F' N' B' X' T' kG'; (try dsimp only); (try k_lift B'); (try k_fold)))
  k_with "binaryOp FloorDiv int int" => (k_here; (with_reducible refine floordiv_int ?d0 ?_ (Or.inl ?d1)); (case d0 => first | with_reducible assumption | decide | omega); (case d1 => first | with_reducible assumption | exact PyProof.noPylong_of_log2 (by decide +kernel)))
  k_with "MyKEnter" => ((fail_if_success k_inElt); (refine' code_defC ?k1 ?k2 ?k3 ?k4 ?k5 ?kA ?kF ?kK ?k6 ?k7 ?k8 ?k9 ?kB ?kD ?_ ?c2 ?c3 ?c4; (case kA => exact rfl); (case kF => exact rfl); (case kK => exact rfl); (case k1 => k_asm); (case k2 => k_asm); (case k3 => k_asm); (case k4 => k_asm); (case k5 => k_asm); (case k6 => k_is); (case k7 => k_is); (case k8 => ktr_room); (case k9 => first | exact BindsTo.of_eq rfl | exact binds_K (by k_in) rfl (by k_is) rfl rfl rfl | fail "k_enter: no rule for these arguments"); (case kB => exact rfl); (case kD => decide +kernel); (case c2 => exact rfl); (case c3 => exact rfl); (case c4 => exact rfl); k_whole; intro g' L' h' tk' cells' FG' F' N' Y' B' X' T' l1; (try k_lt l1); k_cells Y'; (try simp only [List.cons_append, List.nil_append] at N'); (try dsimp only); (try k_lift B'); (try k_fold)))
  k_with "MyKEnter" => ((fail_if_success k_inElt); (refine' code_def ?k1 ?k2 ?k3 ?k4 ?k5 ?kA ?kF ?kK ?k6 ?k7 ?k8 ?k9 ?kB ?_ ?c2 ?c3 ?c4 ?c5; (case kA => exact rfl); (case kF => exact rfl); (case kK => exact rfl); (case k1 => k_asm); (case k2 => k_asm); (case k3 => k_asm); (case k4 => k_asm); (case k5 => k_asm); (case k6 => k_is); (case k7 => k_is); (case k8 => ktr_room); (case k9 => first | exact BindsTo.of_eq rfl | exact binds_K (by k_in) rfl (by k_is) rfl rfl rfl | fail "k_enter: no rule for these arguments"); (case c5 => decide); (case kB => exact locs rfl); (case c2 => exact rfl); (case c3 => exact rfl); (case c4 => exact rfl); k_whole; intro g' L' h' FG' F' N' B' X' T'; (try dsimp only); (try k_lift B'); (try k_fold)))
  k_with "MyPre" => first | with_reducible assumption | omega | with_reducible decide | fail "MyPre"
  k_with "execs cons" => ((fail_if_success k_inElt); first | (with_reducible refine consQ (by with_reducible assumption) (fun Q9 hQ9 => ?_)) | (with_reducible refine consQQ (fun Q8 hQ8 Q9 hQ9 => ?_)))
  k_with "execs cons" => (k_made; walk_at "execs cons")
  k_with "execs cons" => ((with_reducible show wpAny _ _ _ _ _ (Shared.mk _ _ _ (@HAdd.hAdd Nat Nat Nat _ _ _) _)); refine stGen s rfl rfl rfl (fun tk9 => ?_); (try dsimp only))
  k_with "MyQ" => ((fail_if_success (with_reducible show wpAny _ _ _ _ _ _)); (with_reducible first | refine qNext (by with_reducible assumption) ?_ | refine qRet (by with_reducible assumption) ?_ | refine qBrk (by with_reducible assumption) ?_ | refine qCont (by with_reducible assumption) ?_ | refine qGen (by with_reducible assumption) ?_); (try dsimp only))
  k_with "MyAll" => first | k_extra "MyQ" | (k_unfold; (try dsimp only)) | (k_end; kc_close) | walk1 | (dsimp only; walk1) | (leave1; walk_say "STEP leave1"; (try dsimp only)) | fail "no step"
  k_with "eval Name" => (k_here; (with_reducible show wpAny _ _ (eval (Expr.Name _ _) (envOf _ _ _ _ _)) _ _ _); k_dflt (refine' ld ?k1 ?k2 ?_ rfl (by kernel_rfl!) (by kernel_rfl!); (case k1 => k_asm); (case k2 => exact rfl); k_whole))
  k_with "MySize" => ((with_reducible show List.length (List.nil) ≤ _); exact Nat.zero_le _)
  k_with "MyKSub" => (intro p77 hp77; (repeat (first | with_reducible exact hp77 | with_reducible refine List.mem_cons_of_mem _ ?_)); done)
  trivial
theorem kw_22_disp_a : True := by
  k_with "call ref" => (k_dflt (k_here; (with_reducible show wpAny _ _ (call (Value.ref 237) _) _ _ _); (fail_if_success k_inElt); k_dflt (refine' Does.use ?k1 ?k2 ?k3 ?k4 ?k5 ?kK (joined_figures_does _ _ _ _ ?p0 ?p1 ?p2) ?kS ?kd ?ku ?_; (case k1 => k_asm); (case k2 => k_asm); (case k3 => k_asm); (case k4 => k_asm); (case k5 => k_asm); (case kK => first | exact rfl | assumption); (case kS => (repeat' (first | exact List.forall_mem_nil _ | (refine List.forall_mem_cons.mpr ⟨?_, ?_⟩) | k_mem | (intro p9 hp9; repeat' (first | exact hp9 | exact List.mem_append_left _ hp9 | exact List.mem_append_right _ hp9 | refine List.Mem.tail _ ?_ | refine List.mem_append_right _ ?_))))); (case kd => ktr_room); (case ku => ktr_units); (case p0 => walk_at "MyPre"); (case p1 => walk_at "MyPre"); (case p2 => walk_at "MyPre"); k_whole); (intro v9 h9 tk9 nw9 E9 F9 N9 hp9; (obtain ⟨hn9, t9, hv9⟩ := hp9; subst hn9; subst hv9); (try simp only [List.nil_append, List.cons_append] at N9); (try dsimp only); (try k_sweep); (try clear E9))))
  trivial
section
open PySem.Calls PyProof PySem.Spec
variable {prog : Program} {w : World} {A : Around} {E : Value → Shared → Prop} {s : Shared} {h₀ : Heap} {L : Addr} {m : Str → Option Value} {env : Env}
/-- a list comprehension over octets -/
theorem comp_bytes {elt iter : Expr} {x : Str} {px : Pos} {ifs : List Expr} {scope : Scope} {cl : List (Str × Addr)} {pos : Pos} {Q : Value → Shared → Prop} {pz : Int → Bool} {d : Int → PyData}
    (hh : A.handled = none) (hclos : closureFor scope env = pure cl) (hcell : ∀ y ∈ scope.names, y.2 ≠ .cell) (hkind : scope.kind = .function)
    (hnames : ∀ y ∈ scope.names, y.2 = .local → scope.names.lookup y.1 = some .local) (hx : scope.names.lookup x = some .local)
    (h : wpAny (model prog w) A (eval iter env) (fun xv s₁ => ∃ news : List (Addr × Obj), ∃ b tb as, xv = .bytes b tb ∧ KBw.bInts b = as ∧ as.length ≤ sizeLine ∧ Fr h₀ L s₁.heap m ∧ News h₀ L s₁.heap news ∧
      (∀ C a v s₂ m₂ E', s₁.heap.objs.size ≤ C → a ∈ as → ItemKind.int.is a v → s₂.heap.Ns (compEnvC scope cl C env).locals m₂ → m₂ x = some v → (∀ b o, s₁.heap.get? b = some o → s₂.heap.get? b = some o) →
        wpAny (model prog w) A (forIn ifs true fun c r => if r = true then do let ok ← isTrue c (compEnvC scope cl C env) (eval c (compEnvC scope cl C env)); pure (ForInStep.yield ok) else pure (ForInStep.yield r))
          (fun ok s₃ => ok = pz a ∧ Keeps s₂ s₃) E' s₂) ∧
      (∀ C a v s₂ m₂ E', s₁.heap.objs.size ≤ C → a ∈ as → ItemKind.int.is a v → pz a = true → s₂.heap.Ns (compEnvC scope cl C env).locals m₂ → m₂ x = some v → (∀ b o, s₁.heap.get? b = some o → s₂.heap.get? b = some o) →
        wpAny (model prog w) A (eval elt (compEnvC scope cl C env)) (fun y s₃ => Carried y (d a) ∧ Keeps s₂ s₃) E' s₂) ∧
      (∀ D (ys : List Value) h' tk, Fr h₀ L h' m → News h₀ L h' news → h₀.get? D = none → h'.IsList D ys.toArray → NewPlain h' news D ys.toArray → CarriedAll ys ((as.filter pz).map d) → Q (.ref D) { s₁ with heap := h', toks := tk })) E s)
    (hs : ∀ x, foldedSetIterable iter env x = pure x) :
    wpAny (model prog w) A (eval (.ListComp elt [⟨.Name x px, iter, ifs, 0⟩] scope pos) env) Q E s := by
  refine wpAny_ListComp_free (ItemKind.int.lift pz) (fun v y => ∃ a, ItemKind.int.is a v ∧ Carried y (d a)) hclos hcell hkind hnames hx (wpAny_mono h (fun xv s₁ h₁ => ?_) fun _ _ e => e) hs
  obtain ⟨news, b, tb, as, rfl, hb, hsz, F, N, htests, helt, hQ⟩ := h₁
  subst hb
  refine KBw.pyIter_bytes ?_
  have hval : ∀ (i : Nat) v, (∃ (c : UInt8) (u : Tok), b[i]? = some c ∧ v = Value.int (c.toNat : Int) u) → ∃ a, (KBw.bInts b)[i]? = some a ∧ ItemKind.int.is a v := by
    rintro i v ⟨c, u, hc, rfl⟩
    exact ⟨_, KBw.ints_get hc, u, rfl⟩
  have up : ∀ (h' : Heap), (∀ b' o, b' ∉ [s₁.heap.objs.size] → (s₁.heap.push { cls := .type "bytes_iterator", data := .fields #[.bytes b tb, .int 0 0] }).get? b' = some o → h'.get? b' = some o) → ∀ b' o, s₁.heap.get? b' = some o → h'.get? b' = some o :=
    fun h' hk b' o e => hk b' o (fun hm => by rcases List.mem_cons.mp hm with rfl | hm; exact Nat.lt_irrefl _ (Heap.lt_size e); cases hm) (Heap.get?_push_of_some _ e)
  refine ⟨s₁.heap.objs.size, [s₁.heap.objs.size], [s₁.heap.objs.size], b.size, _, _, rfl, KBw.walks hh _ b tb, (by rw [← KBw.ints_length]; exact hsz), ⟨_, Heap.get?_push_size _ rfl, rfl, rfl⟩, ?_, ⟨?_, ?_⟩, ?_⟩
  · intro b' hb
    show b' < (s₁.heap.push _).objs.size
    rw [Heap.size_push]
    rcases List.mem_cons.mp hb with rfl | hb
    · exact Nat.lt_succ_self _
    · cases hb
  · intro C i v s₃ m₃ E' hC hP hn' hm hk _
    obtain ⟨a, ha1, ha⟩ := hval i v hP
    rw [ItemKind.lift_is ha]
    exact htests C _ v s₃ m₃ E' (Nat.le_of_succ_le (by simpa [Heap.size_push] using hC)) (List.mem_of_getElem? ha1) ha hn' hm (up _ hk)
  · intro C i v s₃ m₃ E' hC hP hp hn' hm hk _
    obtain ⟨a, ha1, ha⟩ := hval i v hP
    rw [ItemKind.lift_is ha] at hp
    exact wpAny_mono (helt C _ v s₃ m₃ E' (Nat.le_of_succ_le (by simpa [Heap.size_push] using hC)) (List.mem_of_getElem? ha1) ha hp hn' hm (up _ hk)) (fun y s₄ h₄ => ⟨⟨_, ha, h₄.1⟩, h₄.2⟩) fun _ _ e => e
  · intro D h' tk ys vs' hnew hlD hplD hlen hP hF hk
    have hi : AreOf .int vs' (KBw.bInts b) := AreOf.of_get (hlen.trans (KBw.ints_length b).symm) fun j v hv => hval j v (hP j v hv)
    have keep := up h' hk
    refine hQ D ys.toList h' tk (F.keeps keep) (N.grown keep) ?_ (by rw [Array.toArray_toList]; exact hlD) ⟨by rw [Array.toArray_toList]; exact hplD, fun p hp e => by rw [← e, Heap.get?_push_of_some _ (N p hp).1] at hnew; cases hnew⟩ (hi.paired pz d _ hF)
    cases e : h₀.get? D with
    | none => rfl
    | some o' => rw [Heap.get?_push_of_some _ (F.keep _ _ e)] at hnew; cases hnew
end
theorem kw_22_disp_b : True := by
  k_with "eval ListComp" => (k_dflt (k_here; (with_reducible apply comp_bytes); (case hh => with_unfolding_all rfl); (case hclos => with_unfolding_all rfl); (case hcell => decide); (case hkind => with_unfolding_all rfl); (case hnames => decide); (case hx => with_unfolding_all rfl); (case hs => intro _; with_unfolding_all rfl); (case' h => with_reducible refine wpAny_rangePack ?_)))
  k_with "RangePack" => (k_dflt ((refine RangePack.intro ?_); (with_reducible rename KBa.In _ => I9); (with_reducible rename Fr _ _ _ _ => F9); (with_reducible rename News _ _ _ _ => N9); (refine' ⟨_, _, _, _, rfl, KBa.ints_make I9, (by rw [PySem.sizeLine_eq]; omega), F9, N9, ?g1, ?g2, ?g3⟩); (case g1 => (intro C a v s₂ m₂ E' hC ha hK hn hm hk; exact wpAny_pure ⟨rfl, _, _, rfl, fun _ _ e => e⟩)); (case' g3 => (intro D9 ys9 h9 tk9 F8 N8 hD9 hl9 hP9 hC9)); (case' g2 => (intro C a v s₂ m₂ E' hC ha hK hz hn hm hk; obtain ⟨t9, e9⟩ := hK; subst e9; have hb9 := I9 _ ha; have F8 := frInComp hn hk hC;  (try (((with_reducible refine wpAny_leafK ?_); (try (first | ((with_reducible refine markB ?_); intro _) | ((with_reducible refine markD ?_); intro _))))))))))
  trivial
theorem codeFigs {L : List Int} (hL : ∀ z ∈ L, 48 ≤ z ∧ z < 58) : ∀ z ∈ List.map (fun a => a - 48) L, 0 ≤ z ∧ z < 10 := fun z hz => by
  obtain ⟨c, hc, rfl⟩ := List.mem_map.mp hz
  have := hL c hc
  omega
section
variable {w : World} {mean : ExcName → Option Value} {mg mb : Str → Option Value}
theorem display_plain_does (x dx : Addr) (T : ShT) (S : Sh) (L : List Int) (t : Tok) (h1 : 1 ≤ S.digits) (h2 : S.digits ≤ 18) (hs : S.size = S.digits) (hg : S.signed = false) (hl : (L.length : Int) = S.digits) (hI : KBa.In L) (hL : ∀ z ∈ L, 48 ≤ z ∧ z < 58) :
    Does w mean mg mb 249 2 [.ref x, .bytes (byteArr L) t] [(x, instObj 133 dx), (dx, dictOf (shapeEs w T (Str.ofString "display") S) 11)] (fun nw v => nw = [] ∧ ∃ t', v = .int (joinF (L.map (· - 48))) t') := by
  refine unBox ?_
  simp (zetaDelta := true) (disch := (k_dflt (
    refine inBox ?_
    intro dp un gd cn cs a ccd cl outer A₀ base h₀ L' m s Q E B F X N T hk hd hu hret
    have hD1 := codeFigs hL
    have hD2 : (List.map (fun a => a - 48) L).length ≤ 40 := by rw [List.length_map]; omega
    have cE := InElt.start s.heap
    walk_at "MyEnter"
    k_steps
    exact hret _ _ _ _ (by assumption) (newsTake 0 (by assumption)) ⟨rfl, _, rfl⟩
    ))) only [↓Box.of]
end
end
section
theorem kw_23_disp : True := by
  k_with_none
  k_with "MyEnter" => (refine wpAny_call ?_; k_dflt (refine' code_defG ?k1 ?k2 ?k3 ?k4 ?k5 ?kA ?kF ?kK ?k6 ?k7 ?k8 ?k9 ?kB ?_ ?c2 ?c3 ?c4 ?c5; (case kA => exact rfl); (case kF => exact rfl); (case kK => assumption); (case k1 => k_asm); (case k2 => k_asm); (case k3 => k_asm); (case k4 => k_asm); (case k5 => k_asm); (case k6 => k_is); (case k7 => k_is); (case k8 => ktr_room); (case k9 => first | exact BindsTo.of_eq rfl | exact binds_K (by k_in) rfl (by k_is) rfl rfl rfl); (case c5 => decide); (case kB => exact locs rfl); (case c2 => exact rfl); (case c3 => exact rfl); (case c4 => exact rfl); k_whole; intro g' L' h' FG' F' N' B' X' T' kG'; (try dsimp only); (try k_lift B'); (try k_fold)))
  k_with "binaryOp FloorDiv int int" => (k_here; (with_reducible refine floordiv_int ?d0 ?_ (Or.inl ?d1)); (case d0 => first | with_reducible assumption | decide | omega); (case d1 => first | with_reducible assumption | exact PyProof.noPylong_of_log2 (by decide +kernel)))
  k_with "MyKEnter" => ((fail_if_success k_inElt); (refine' code_defC ?k1 ?k2 ?k3 ?k4 ?k5 ?kA ?kF ?kK ?k6 ?k7 ?k8 ?k9 ?kB ?kD ?_ ?c2 ?c3 ?c4; (case kA => exact rfl); (case kF => exact rfl); (case kK => exact rfl); (case k1 => k_asm); (case k2 => k_asm); (case k3 => k_asm); (case k4 => k_asm); (case k5 => k_asm); (case k6 => k_is); (case k7 => k_is); (case k8 => ktr_room); (case k9 => first | exact BindsTo.of_eq rfl | exact binds_K (by k_in) rfl (by k_is) rfl rfl rfl | fail "k_enter: no rule for these arguments"); (case kB => exact rfl); (case kD => decide +kernel); (case c2 => exact rfl); (case c3 => exact rfl); (case c4 => exact rfl); k_whole; intro g' L' h' tk' cells' FG' F' N' Y' B' X' T' l1; (try k_lt l1); k_cells Y'; (try simp only [List.cons_append, List.nil_append] at N'); (try dsimp only); (try k_lift B'); (try k_fold)))
  k_with "MyKEnter" => ((fail_if_success k_inElt); (refine' code_def ?k1 ?k2 ?k3 ?k4 ?k5 ?kA ?kF ?kK ?k6 ?k7 ?k8 ?k9 ?kB ?_ ?c2 ?c3 ?c4 ?c5; (case kA => exact rfl); (case kF => exact rfl); (case kK => exact rfl); (case k1 => k_asm); (case k2 => k_asm); (case k3 => k_asm); (case k4 => k_asm); (case k5 => k_asm); (case k6 => k_is); (case k7 => k_is); (case k8 => ktr_room); (case k9 => first | exact BindsTo.of_eq rfl | exact binds_K (by k_in) rfl (by k_is) rfl rfl rfl | fail "k_enter: no rule for these arguments"); (case c5 => decide); (case kB => exact locs rfl); (case c2 => exact rfl); (case c3 => exact rfl); (case c4 => exact rfl); k_whole; intro g' L' h' FG' F' N' B' X' T'; (try dsimp only); (try k_lift B'); (try k_fold)))
  k_with "MyPre" => first | with_reducible assumption | omega | with_reducible decide | fail "MyPre"
  k_with "execs cons" => ((fail_if_success k_inElt); first | (with_reducible refine consQ (by with_reducible assumption) (fun Q9 hQ9 => ?_)) | (with_reducible refine consQQ (fun Q8 hQ8 Q9 hQ9 => ?_)))
  k_with "execs cons" => (k_made; walk_at "execs cons")
  k_with "execs cons" => ((with_reducible show wpAny _ _ _ _ _ (Shared.mk _ _ _ (@HAdd.hAdd Nat Nat Nat _ _ _) _)); refine stGen s rfl rfl rfl (fun tk9 => ?_); (try dsimp only))
  k_with "MyQ" => ((fail_if_success (with_reducible show wpAny _ _ _ _ _ _)); (with_reducible first | refine qNext (by with_reducible assumption) ?_ | refine qRet (by with_reducible assumption) ?_ | refine qBrk (by with_reducible assumption) ?_ | refine qCont (by with_reducible assumption) ?_ | refine qGen (by with_reducible assumption) ?_); (try dsimp only))
  k_with "MyAll" => first | k_extra "MyQ" | (k_unfold; (try dsimp only)) | (k_end; kc_close) | walk1 | (dsimp only; walk1) | (leave1; walk_say "STEP leave1"; (try dsimp only)) | fail "no step"
  k_with "eval Name" => (k_here; (with_reducible show wpAny _ _ (eval (Expr.Name _ _) (envOf _ _ _ _ _)) _ _ _); k_dflt (refine' ld ?k1 ?k2 ?_ rfl (by kernel_rfl!) (by kernel_rfl!); (case k1 => k_asm); (case k2 => exact rfl); k_whole))
  k_with "MySize" => ((with_reducible show List.length (List.nil) ≤ _); exact Nat.zero_le _)
  k_with "MyKSub" => (intro p77 hp77; (repeat (first | with_reducible exact hp77 | with_reducible refine List.mem_cons_of_mem _ ?_)); done)
  trivial
theorem kw_23_disp_a : True := by
  k_with "call ref" => (k_dflt (k_here; (with_reducible show wpAny _ _ (call (Value.ref 237) _) _ _ _); (fail_if_success k_inElt); k_dflt (refine' Does.use ?k1 ?k2 ?k3 ?k4 ?k5 ?kK (joined_figures_does _ _ _ _ ?p0 ?p1 ?p2) ?kS ?kd ?ku ?_; (case k1 => k_asm); (case k2 => k_asm); (case k3 => k_asm); (case k4 => k_asm); (case k5 => k_asm); (case kK => first | exact rfl | assumption); (case kS => (repeat' (first | exact List.forall_mem_nil _ | (refine List.forall_mem_cons.mpr ⟨?_, ?_⟩) | k_mem | (intro p9 hp9; repeat' (first | exact hp9 | exact List.mem_append_left _ hp9 | exact List.mem_append_right _ hp9 | refine List.Mem.tail _ ?_ | refine List.mem_append_right _ ?_))))); (case kd => ktr_room); (case ku => ktr_units); (case p0 => walk_at "MyPre"); (case p1 => walk_at "MyPre"); (case p2 => walk_at "MyPre"); k_whole); (intro v9 h9 tk9 nw9 E9 F9 N9 hp9; (obtain ⟨hn9, t9, hv9⟩ := hp9; subst hn9; subst hv9); (try simp only [List.nil_append, List.cons_append] at N9); (try dsimp only); (try k_sweep); (try clear E9))))
  k_with "call ref" => (k_dflt (k_here; (with_reducible show wpAny _ _ (call (Value.ref 244) _) _ _ _); (fail_if_success k_inElt); k_dflt (refine' Does.use ?k1 ?k2 ?k3 ?k4 ?k5 ?kK (signed_plus_does _ _ _ ?p0 ?p1 ?p2 ?p3) ?kS ?kd ?ku ?_; (case k1 => k_asm); (case k2 => k_asm); (case k3 => k_asm); (case k4 => k_asm); (case k5 => k_asm); (case kK => first | exact rfl | assumption); (case kS => (repeat' (first | exact List.forall_mem_nil _ | (refine List.forall_mem_cons.mpr ⟨?_, ?_⟩) | k_mem | (intro p9 hp9; repeat' (first | exact hp9 | exact List.mem_append_left _ hp9 | exact List.mem_append_right _ hp9 | refine List.Mem.tail _ ?_ | refine List.mem_append_right _ ?_))))); (case kd => ktr_room); (case ku => ktr_units); (case p0 => walk_at "MyPre"); (case p1 => walk_at "MyPre"); (case p2 => walk_at "MyPre"); (case p3 => walk_at "MyPre"); k_whole); (intro v9 h9 tk9 nw9 E9 F9 N9 hp9; (obtain ⟨r9, t9, u9, hn9, hv9⟩ := hp9; subst hn9; subst hv9); (try simp only [List.nil_append, List.cons_append] at N9); (try dsimp only); (try k_sweep); (try clear E9))))
  k_with "call ref" => (k_dflt (k_here; (with_reducible show wpAny _ _ (call (Value.ref 244) _) _ _ _); (fail_if_success k_inElt); k_dflt (refine' Does.use ?k1 ?k2 ?k3 ?k4 ?k5 ?kK (signed_minus_does _ _ _ ?p0 ?p1 ?p2 ?p3 ?p4) ?kS ?kd ?ku ?_; (case k1 => k_asm); (case k2 => k_asm); (case k3 => k_asm); (case k4 => k_asm); (case k5 => k_asm); (case kK => first | exact rfl | assumption); (case kS => (repeat' (first | exact List.forall_mem_nil _ | (refine List.forall_mem_cons.mpr ⟨?_, ?_⟩) | k_mem | (intro p9 hp9; repeat' (first | exact hp9 | exact List.mem_append_left _ hp9 | exact List.mem_append_right _ hp9 | refine List.Mem.tail _ ?_ | refine List.mem_append_right _ ?_))))); (case kd => ktr_room); (case ku => ktr_units); (case p0 => walk_at "MyPre"); (case p1 => walk_at "MyPre"); (case p2 => walk_at "MyPre"); (case p3 => walk_at "MyPre"); (case p4 => walk_at "MyPre"); k_whole); (intro v9 h9 tk9 nw9 E9 F9 N9 hp9; (obtain ⟨r9, t9, u9, hn9, hv9⟩ := hp9; subst hn9; subst hv9); (try simp only [List.nil_append, List.cons_append] at N9); (try dsimp only); (try k_sweep); (try clear E9))))
  k_with "eval ListComp" => (k_dflt (k_here; (with_reducible apply comp_bytes); (case hh => with_unfolding_all rfl); (case hclos => with_unfolding_all rfl); (case hcell => decide); (case hkind => with_unfolding_all rfl); (case hnames => decide); (case hx => with_unfolding_all rfl); (case hs => intro _; with_unfolding_all rfl); (case' h => with_reducible refine wpAny_rangePack ?_)))
  k_with "RangePack" => (k_dflt ((refine RangePack.intro ?_); (with_reducible rename KBa.In _ => I9); (with_reducible rename Fr _ _ _ _ => F9); (with_reducible rename News _ _ _ _ => N9); (refine' ⟨_, _, _, _, rfl, KBa.ints_make I9, (by rw [PySem.sizeLine_eq]; omega), F9, N9, ?g1, ?g2, ?g3⟩); (case g1 => (intro C a v s₂ m₂ E' hC ha hK hn hm hk; exact wpAny_pure ⟨rfl, _, _, rfl, fun _ _ e => e⟩)); (case' g3 => (intro D9 ys9 h9 tk9 F8 N8 hD9 hl9 hP9 hC9)); (case' g2 => (intro C a v s₂ m₂ E' hC ha hK hz hn hm hk; obtain ⟨t9, e9⟩ := hK; subst e9; have hb9 := I9 _ ha; have F8 := frInComp hn hk hC;  (try (((with_reducible refine wpAny_leafK ?_); (try (first | ((with_reducible refine markB ?_); intro _) | ((with_reducible refine markD ?_); intro _))))))))))
  trivial
section
variable {w : World} {mean : ExcName → Option Value} {mg mb : Str → Option Value}
theorem display_plus_does (x dx : Addr) (T : ShT) (S : Sh) (L : List Int) (j : Nat) (t : Tok) (h1 : 1 ≤ S.digits) (h2 : S.digits ≤ 18) (hs : S.size = S.digits) (hg : S.signed = true) (hl : (L.length : Int) = S.digits) (hI : KBa.In L)
    (h3 : 0 ≤ L.getD (S.size - 1).toNat 0) (h4 : L.getD (S.size - 1).toNat 0 < 256) (hp : plusRow.toArray.contains (L.getD (S.size - 1).toNat 0).toNat.toUInt8 = true) (hj : PySem.Builtin.Bytes.find? plusRow.toArray #[(L.getD (S.size - 1).toNat 0).toNat.toUInt8] 0 10 = some j)
    (hF : ∀ z ∈ (L.map (fun a => a - 48)).set (S.size - 1).toNat (j : Int), 0 ≤ z ∧ z < 10) :
    Does w mean mg mb 249 2 [.ref x, .bytes (byteArr L) t] [(x, instObj 133 dx), (dx, dictOf (shapeEs w T (Str.ofString "display") S) 11)] (fun nw v => nw = [] ∧ ∃ t', v = .int (joinF ((L.map (fun a => a - 48)).set (S.size - 1).toNat (j : Int))) t') := by
  refine unBox ?_
  simp (zetaDelta := true) (disch := (k_dflt (
    refine inBox ?_
    intro dp un gd cn cs a ccd cl outer A₀ base h₀ L' m s Q E B F X N T hk hd hu hret
    have hD2 : ((List.map (fun a => a - 48) L).set (S.size - 1).toNat (j : Int)).length ≤ 40 := by rw [List.length_set, List.length_map]; omega
    have cE := InElt.start s.heap
    walk_at "MyEnter"
    k_steps
    rename News _ _ _ _ => NX
    have ne1 := newsNe NX (List.mem_cons_of_mem _ (List.mem_cons_of_mem _ (List.mem_cons_self ..))) (List.mem_cons_of_mem _ (List.mem_cons_of_mem _ (List.mem_cons_of_mem _ (List.mem_cons_self ..)))) (by intro q; cases q)
    have ne2 := newsNe NX (List.mem_cons_of_mem _ (List.mem_cons_of_mem _ (List.mem_cons_self ..))) (List.mem_cons_of_mem _ (List.mem_cons_of_mem _ (List.mem_cons_of_mem _ (List.mem_cons_of_mem _ (List.mem_cons_self ..))))) (by intro q; injection q with q; exact absurd q (by decide))
    have N3 := cb_drop (news := [_, (x, _), (dx, _)]) NX (fun p hp => List.mem_cons_of_mem _ (List.mem_cons_of_mem _ hp))
    clear NX
    k_steps
    exact hret _ _ _ _ (by assumption) (newsTake 0 (by assumption)) ⟨rfl, _, rfl⟩
    ))) only [↓Box.of]
theorem display_minus_does (x dx : Addr) (T : ShT) (S : Sh) (L : List Int) (j : Nat) (t : Tok) (h1 : 1 ≤ S.digits) (h2 : S.digits ≤ 18) (hs : S.size = S.digits) (hg : S.signed = true) (hl : (L.length : Int) = S.digits) (hI : KBa.In L)
    (h3 : 0 ≤ L.getD (S.size - 1).toNat 0) (h4 : L.getD (S.size - 1).toNat 0 < 256) (hp : plusRow.toArray.contains (L.getD (S.size - 1).toNat 0).toNat.toUInt8 = false) (hm : minusRow.toArray.contains (L.getD (S.size - 1).toNat 0).toNat.toUInt8 = true) (hj : PySem.Builtin.Bytes.find? minusRow.toArray #[(L.getD (S.size - 1).toNat 0).toNat.toUInt8] 0 10 = some j)
    (hF : ∀ z ∈ (L.map (fun a => a - 48)).set (S.size - 1).toNat (j : Int), 0 ≤ z ∧ z < 10) :
    Does w mean mg mb 249 2 [.ref x, .bytes (byteArr L) t] [(x, instObj 133 dx), (dx, dictOf (shapeEs w T (Str.ofString "display") S) 11)] (fun nw v => nw = [] ∧ ∃ t', v = .int (0 - joinF ((L.map (fun a => a - 48)).set (S.size - 1).toNat (j : Int))) t') := by
  refine unBox ?_
  simp (zetaDelta := true) (disch := (k_dflt (
    refine inBox ?_
    intro dp un gd cn cs a ccd cl outer A₀ base h₀ L' m s Q E B F X N T hk hd hu hret
    have hD2 : ((List.map (fun a => a - 48) L).set (S.size - 1).toNat (j : Int)).length ≤ 40 := by rw [List.length_set, List.length_map]; omega
    have cE := InElt.start s.heap
    walk_at "MyEnter"
    k_steps
    rename News _ _ _ _ => NX
    have ne1 := newsNe NX (List.mem_cons_of_mem _ (List.mem_cons_of_mem _ (List.mem_cons_self ..))) (List.mem_cons_of_mem _ (List.mem_cons_of_mem _ (List.mem_cons_of_mem _ (List.mem_cons_self ..)))) (by intro q; cases q)
    have ne2 := newsNe NX (List.mem_cons_of_mem _ (List.mem_cons_of_mem _ (List.mem_cons_self ..))) (List.mem_cons_of_mem _ (List.mem_cons_of_mem _ (List.mem_cons_of_mem _ (List.mem_cons_of_mem _ (List.mem_cons_self ..))))) (by intro q; injection q with q; exact absurd q (by decide))
    have N3 := cb_drop (news := [_, (x, _), (dx, _)]) NX (fun p hp => List.mem_cons_of_mem _ (List.mem_cons_of_mem _ hp))
    clear NX
    k_steps
    exact hret _ _ _ _ (by assumption) (newsTake 0 (by assumption)) ⟨rfl, _, rfl⟩
    ))) only [↓Box.of]
end
end
section
theorem kw_24_pku : True := by
  k_with_none
  k_with "MyEnter" => (refine wpAny_call ?_; k_dflt (refine' code_defG ?k1 ?k2 ?k3 ?k4 ?k5 ?kA ?kF ?kK ?k6 ?k7 ?k8 ?k9 ?kB ?_ ?c2 ?c3 ?c4 ?c5; (case kA => exact rfl); (case kF => exact rfl); (case kK => assumption); (case k1 => k_asm); (case k2 => k_asm); (case k3 => k_asm); (case k4 => k_asm); (case k5 => k_asm); (case k6 => k_is); (case k7 => k_is); (case k8 => ktr_room); (case k9 => first | exact BindsTo.of_eq rfl | exact binds_K (by k_in) rfl (by k_is) rfl rfl rfl); (case c5 => decide); (case kB => exact locs rfl); (case c2 => exact rfl); (case c3 => exact rfl); (case c4 => exact rfl); k_whole; intro g' L' h' FG' F' N' B' X' T' kG'; (try dsimp only); (try k_lift B'); (try k_fold)))
  k_with "binaryOp FloorDiv int int" => (k_here; (with_reducible refine floordiv_int ?d0 ?_ (Or.inl ?d1)); (case d0 => first | with_reducible assumption | decide | omega); (case d1 => first | with_reducible assumption | exact PyProof.noPylong_of_log2 (by decide +kernel)))
  k_with "MyKEnter" => ((fail_if_success k_inElt); (refine' code_defC ?k1 ?k2 ?k3 ?k4 ?k5 ?kA ?kF ?kK ?k6 ?k7 ?k8 ?k9 ?kB ?kD ?_ ?c2 ?c3 ?c4; (case kA => exact rfl); (case kF => exact rfl); (case kK => exact rfl); (case k1 => k_asm); (case k2 => k_asm); (case k3 => k_asm); (case k4 => k_asm); (case k5 => k_asm); (case k6 => k_is); (case k7 => k_is); (case k8 => ktr_room); (case k9 => first | exact BindsTo.of_eq rfl | exact binds_K (by k_in) rfl (by k_is) rfl rfl rfl | fail "k_enter: no rule for these arguments"); (case kB => exact rfl); (case kD => decide +kernel); (case c2 => exact rfl); (case c3 => exact rfl); (case c4 => exact rfl); k_whole; intro g' L' h' tk' cells' FG' F' N' Y' B' X' T' l1; (try k_lt l1); k_cells Y'; (try simp only [List.cons_append, List.nil_append] at N'); (try dsimp only); (try k_lift B'); (try k_fold)))
  k_with "MyKEnter" => ((fail_if_success k_inElt); (refine' code_def ?k1 ?k2 ?k3 ?k4 ?k5 ?kA ?kF ?kK ?k6 ?k7 ?k8 ?k9 ?kB ?_ ?c2 ?c3 ?c4 ?c5; (case kA => exact rfl); (case kF => exact rfl); (case kK => exact rfl); (case k1 => k_asm); (case k2 => k_asm); (case k3 => k_asm); (case k4 => k_asm); (case k5 => k_asm); (case k6 => k_is); (case k7 => k_is); (case k8 => ktr_room); (case k9 => first | exact BindsTo.of_eq rfl | exact binds_K (by k_in) rfl (by k_is) rfl rfl rfl | fail "k_enter: no rule for these arguments"); (case c5 => decide); (case kB => exact locs rfl); (case c2 => exact rfl); (case c3 => exact rfl); (case c4 => exact rfl); k_whole; intro g' L' h' FG' F' N' B' X' T'; (try dsimp only); (try k_lift B'); (try k_fold)))
  k_with "MyPre" => first | with_reducible assumption | omega | with_reducible decide | fail "MyPre"
  k_with "execs cons" => ((fail_if_success k_inElt); first | (with_reducible refine consQ (by with_reducible assumption) (fun Q9 hQ9 => ?_)) | (with_reducible refine consQQ (fun Q8 hQ8 Q9 hQ9 => ?_)))
  k_with "execs cons" => (k_made; walk_at "execs cons")
  k_with "execs cons" => ((with_reducible show wpAny _ _ _ _ _ (Shared.mk _ _ _ (@HAdd.hAdd Nat Nat Nat _ _ _) _)); refine stGen s rfl rfl rfl (fun tk9 => ?_); (try dsimp only))
  k_with "MyQ" => ((fail_if_success (with_reducible show wpAny _ _ _ _ _ _)); (with_reducible first | refine qNext (by with_reducible assumption) ?_ | refine qRet (by with_reducible assumption) ?_ | refine qBrk (by with_reducible assumption) ?_ | refine qCont (by with_reducible assumption) ?_ | refine qGen (by with_reducible assumption) ?_); (try dsimp only))
  k_with "MyAll" => first | k_extra "MyQ" | (k_unfold; (try dsimp only)) | (k_end; kc_close) | walk1 | (dsimp only; walk1) | (leave1; walk_say "STEP leave1"; (try dsimp only)) | fail "no step"
  k_with "eval Name" => (k_here; (with_reducible show wpAny _ _ (eval (Expr.Name _ _) (envOf _ _ _ _ _)) _ _ _); k_dflt (refine' ld ?k1 ?k2 ?_ rfl (by kernel_rfl!) (by kernel_rfl!); (case k1 => k_asm); (case k2 => exact rfl); k_whole))
  k_with "MySize" => ((with_reducible show List.length (List.nil) ≤ _); exact Nat.zero_le _)
  k_with "MyKSub" => (intro p77 hp77; (repeat (first | with_reducible exact hp77 | with_reducible refine List.mem_cons_of_mem _ ?_)); done)
  trivial
theorem kw_24_pku_a : True := by
  k_with "MySum" => (simp only [List.length_cons, List.length_nil]; (try rw [PySem.sizeLine_eq]); omega)
  trivial
theorem lastOf {prog : Program} {w : World} {A : Around} {E : Value → Shared → Prop} {s : Shared} {value slice : PySem.Expr} {h₀ : Heap} {L r : Addr} {nw : List (Addr × Obj)} {vs : List Value} {H : List Int} {m : Int} {n : Nat} {u : Tok} {Q : Value → Shared → Prop}
    (N : News h₀ L s.heap nw) (hm : (r, listOf vs.toArray n) ∈ nw) (hi : IntsAre vs (H ++ [m])) (h : ∀ t, Q (.int m t) s)
    (hs : subscripted slice false (.ref r) (.int (-1) u) = operate [.ref r, .int (-1) u] (getItem (.ref r) (.int (-1) u)) := by with_unfolding_all rfl) :
    wpAny (model prog w) A (subscriptTail value slice (.ref r) (.int (-1) u)) Q E s :=
  item_list_ints_negR (News.isList N hm) hi (by decide) (by rw [List.length_append]; show -((H.length + 1 : Nat) : Int) ≤ -1; omega) (by decide) (fun t => by rw [getD_last]; exact h t) hs
theorem kw_24_pku_b : True := by
  k_with "subscriptTail Name UnaryOp ref int" => (k_dflt (k_here; (with_reducible rename News _ _ _ _ => N7); (with_reducible rename IntsAre _ _ => i7); (refine' lastOf N7 ?km i7 ?_ ?ks; (case km => k_mem); (case ks => with_unfolding_all rfl)); intro t7))
  k_with "call ref" => (k_dflt (k_here; (with_reducible show wpAny _ _ (call (Value.ref 237) _) _ _ _); (fail_if_success k_inElt); k_dflt (refine' Does.use ?k1 ?k2 ?k3 ?k4 ?k5 ?kK (joined_figures_does _ _ _ _ ?p0 ?p1 ?p2) ?kS ?kd ?ku ?_; (case k1 => k_asm); (case k2 => k_asm); (case k3 => k_asm); (case k4 => k_asm); (case k5 => k_asm); (case kK => first | exact rfl | assumption); (case kS => (repeat' (first | exact List.forall_mem_nil _ | (refine List.forall_mem_cons.mpr ⟨?_, ?_⟩) | k_mem | (intro p9 hp9; repeat' (first | exact hp9 | exact List.mem_append_left _ hp9 | exact List.mem_append_right _ hp9 | refine List.Mem.tail _ ?_ | refine List.mem_append_right _ ?_))))); (case kd => ktr_room); (case ku => ktr_units); (case p0 => walk_at "MyPre"); (case p1 => walk_at "MyPre"); (case p2 => walk_at "MyPre"); k_whole); (intro v9 h9 tk9 nw9 E9 F9 N9 hp9; (obtain ⟨hn9, t9, hv9⟩ := hp9; subst hn9; subst hv9); (try simp only [List.nil_append, List.cons_append] at N9); (try dsimp only); (try k_sweep); (try clear E9))))
  trivial
section
variable {prog : Program} {w : World} {A : Around} {E : Value → Shared → Prop} {s : Shared} {env : Env} {h₀ : Heap} {x : Str} {body : List Stmt} {Q : Flow → Shared → Prop}
theorem unrMono {L I : Addr} {it : Obj} {rest rest' : (Str → Option Value) → List (Addr × Obj) → Prop} {f : Flow} {s₁ s₂ : Shared} (hr : ∀ m nx, rest m nx → rest' m nx) (h : UnrPost h₀ L s₁ I it rest Q f s₂) : UnrPost h₀ L s₁ I it rest' Q f s₂ := by
  have go : UnrEnd h₀ L s₁ I it rest s₂ → UnrEnd h₀ L s₁ I it rest' s₂ := fun ⟨h', tk, m', nx, e, F, N, o, r⟩ => ⟨h', tk, m', nx, e, F, N, o, hr _ _ r⟩
  cases f with
  | ret v => exact h
  | brk => exact h
  | next => exact go h
  | cont => exact go h
/-- a loop over octets whose state may name new objects at each turn -/
theorem unrInd {I : Addr} (R : List Int → (Str → Option Value) → List (Addr × Obj) → Prop) {l : List Int}
    (turn : ∀ (pre : List Int) (c : Int) (post : List Int) m news, l = pre ++ c :: post → R pre m news → 0 ≤ c → c < 256 → ∀ (u : Tok) (it : Obj) h tk, Fr h₀ env.locals h (fun y => if y = x then some (.int c u) else m y) → News h₀ env.locals h ((I, it) :: news) →
      wpAny (model prog w) A (execs body env) (UnrPost h₀ env.locals { s with heap := h, toks := tk } I it (R (pre ++ [c])) Q) E { s with heap := h, toks := tk })
    (done : ∀ m news h tk, R l m news → Fr h₀ env.locals h m → News h₀ env.locals h news → Q .next { s with heap := h, toks := tk }) :
    ∀ (post pre : List Int) m news, l = pre ++ post → R pre m news → BytesRest prog w A E h₀ env x body Q s I post m news
  | [], pre, m, news, e, r => .zero fun h tk F N => done m news h tk (by rw [e, List.append_nil]; exact r) F N
  | c :: post, pre, m, news, e, r => .succ fun h0 h1 u it h tk F N =>
    wpAny_mono (turn pre c post m news e r h0 h1 u it h tk F N) (fun _ _ z => unrMono (fun m' nx r' => unrInd R turn done post (pre ++ [c]) m' nx (by rw [e, List.append_assoc]; rfl) r') z) fun _ _ z => z
end
noncomputable def halvesOf (l : List Int) : List Int := l.flatMap fun c => [c.fdiv 16, c.fmod 16]
theorem halvesOf_snoc (l : List Int) (c : Int) : halvesOf (l ++ [c]) = halvesOf l ++ [c.fdiv 16, c.fmod 16] := by rw [halvesOf, List.flatMap_append]; rfl
theorem halvesOf_length : ∀ l : List Int, (halvesOf l).length = 2 * l.length
  | [] => rfl
  | c :: l => by
    have e : halvesOf (c :: l) = [c.fdiv 16, c.fmod 16] ++ halvesOf l := rfl
    rw [e, List.length_append, halvesOf_length l]
    simp only [List.length_cons, List.length_nil]
    omega
/-- between the turns: halves -/
noncomputable def PkR (I : Addr) (base : List (Addr × Obj)) (M : Str → Option Value) (pre : List Int) (m : Str → Option Value) (news : List (Addr × Obj)) : Prop :=
  ∃ (r : Addr) (vs : List Value) (kk : Nat) (u : Option Value), r ≠ I ∧ IntsAre vs (halvesOf pre) ∧ news = (r, listOf vs.toArray kk) :: base ∧ m = fun y => if y = Str.ofString "halves" then some (.ref r) else if y = Str.ofString "code" then u else M y
theorem takeInit (H : List Int) (m : Int) : List.take ((H ++ [m]).length - 1) (H ++ [m]) = H := by
  rw [List.length_append, List.length_cons, List.length_nil]
  exact List.take_left' (by omega)
theorem PkR.next {I r D : Addr} {base : List (Addr × Obj)} {M : Str → Option Value} {pre : List Int} {c : Int} {ws : List Value} {kk : Nat} {u v : Option Value} (h : D ≠ I) (hi : IntsAre ws (halvesOf pre ++ [c.fdiv 16, c.fmod 16])) :
    PkR I base M (pre ++ [c]) (fun y => if y = Str.ofString "halves" then some (.ref D) else if y = Str.ofString "code" then v else if y = Str.ofString "halves" then some (.ref r) else if y = Str.ofString "code" then u else M y) ((D, listOf ws.toArray kk) :: base) := by
  refine ⟨D, ws, kk, v, h, by rw [halvesOf_snoc]; exact hi, rfl, ?_⟩
  funext y
  by_cases hy : y = Str.ofString "halves"
  · simp only [if_pos hy]
  · simp only [if_neg hy]
    by_cases hy2 : y = Str.ofString "code"
    · simp only [if_pos hy2]
    · simp only [if_neg hy, if_neg hy2]
theorem PkR.start {I r : Addr} {base : List (Addr × Obj)} {M : Str → Option Value} (h : r ≠ I) : PkR I base M [] (fun y => if y = Str.ofString "halves" then some (.ref r) else M y) ((r, listOf #[] 0) :: base) := by
  refine ⟨r, [], 0, M (Str.ofString "code"), h, IntsAre.nil, rfl, ?_⟩
  funext y
  by_cases hy : y = Str.ofString "halves"
  · rw [if_pos hy, if_pos hy]
  · rw [if_neg hy, if_neg hy]
    by_cases hy2 : y = Str.ofString "code"
    · rw [if_pos hy2, hy2]
    · rw [if_neg hy2]
section
variable {w : World} {mean : ExcName → Option Value} {mg mb : Str → Option Value}
theorem packed_all (x dx : Addr) (T : ShT) (S : Sh) (L H : List Int) (mk : Int) (t : Tok) (h3 : 1 ≤ S.size) (h4 : S.size ≤ 20) (hl : (L.length : Int) = S.size) (hI : KBa.In L) (hM : mk = 15 ∨ (S.signed = true ∧ (mk = 12 ∨ mk = 13))) (hH : halvesOf L = H ++ [mk]) (hF : ∀ z ∈ H, 0 ≤ z ∧ z < 10) (hF2 : H.length ≤ 40) :
    Does w mean mg mb 256 2 [.ref x, .bytes (byteArr L) t] [(x, instObj 133 dx), (dx, dictOf (shapeEs w T (Str.ofString "packed") S) 11)] (fun nw v => nw = [] ∧ ∃ t', v = .int (if mk = 13 then 0 - joinF H else joinF H) t') := by
  refine unBox ?_
  simp (zetaDelta := true) (disch := (k_dflt (
    refine inBox ?_
    intro dp un gd cn cs a ccd cl outer A₀ base h₀ L' m s Q E B F X N T hk hd hu hret
    have cE := InElt.start s.heap
    walk_at "MyEnter"
    iterate 30 (try (first | k_extra "MyQ" | (k_unfold; (try dsimp only)) | walk1 | (dsimp only; walk1)))
    rename Fr _ _ _ _ => F1
    rename News _ _ _ _ => N1
    refine iter_bytesUnr (l := L) rfl F1 N1 (KBa.ints_make hI) fun I lI => ?_
    k_lt lI
    refine unrInd (PkR I _ _) ?turn ?done L [] _ _ rfl (PkR.start (Nat.ne_of_lt lI.1))
    case turn =>
      clear F1 N1
      rintro pre c post m1 news1 e1 ⟨r, vs, kk, u, hrI, hi, rfl, rfl⟩ hc0 hc1 tu it h1 tk1 F2 N2
      dsimp only at F2
      have hlp : (halvesOf pre).length ≤ 40 := by
        have e2 := congrArg List.length e1
        rw [List.length_append, List.length_append, List.length_cons, List.length_nil] at e2
        rw [halvesOf_length]; omega
      k_steps
      rename News _ _ _ _ => N3
      rename Fr _ _ _ _ => F3
      rename IntsAre _ _ => I3
      refine UnrEnd.intro3 F3 N3 [(_, _), (x, _), (dx, _)] (by k_mem) ⟨by exact List.mem_cons_self .., by k_subL⟩ (by k_offL) (PkR.next (by k_ne) I3)
    case done =>
      clear F1 N1
      rintro m1 news1 h1 tk1 ⟨r, vs, kk, u, hrI, hi, rfl, rfl⟩ F2 N2
      dsimp only at F2
      rw [List.nil_append, hH] at hi
      have hT : List.take ((H ++ [mk]).length - 1) (H ++ [mk]) = H := takeInit H _
      have hD1 : ∀ z ∈ List.take ((H ++ [mk]).length - 1) (H ++ [mk]), 0 ≤ z ∧ z < 10 := by rw [hT]; exact hF
      have hD2 : (List.take ((H ++ [mk]).length - 1) (H ++ [mk])).length ≤ 40 := by rw [hT]; exact hF2
      rcases hM with rfl | ⟨hg, rfl | rfl⟩
      all_goals
        k_steps
        exact hret _ _ _ _ (by assumption) (newsTake 0 (by assumption)) ⟨rfl, _, by rw [hT]; rfl⟩
    ))) only [↓Box.of]
theorem packed_plain_does (x dx : Addr) (T : ShT) (S : Sh) (L H : List Int) (t : Tok) (h3 : 1 ≤ S.size) (h4 : S.size ≤ 20) (hl : (L.length : Int) = S.size) (hI : KBa.In L) (hH : halvesOf L = H ++ [15]) (hF : ∀ z ∈ H, 0 ≤ z ∧ z < 10) (hF2 : H.length ≤ 40) :
    Does w mean mg mb 256 2 [.ref x, .bytes (byteArr L) t] [(x, instObj 133 dx), (dx, dictOf (shapeEs w T (Str.ofString "packed") S) 11)] (fun nw v => nw = [] ∧ ∃ t', v = .int (joinF H) t') :=
  packed_all x dx T S L H 15 t h3 h4 hl hI (.inl rfl) hH hF hF2
theorem packed_plus_does (x dx : Addr) (T : ShT) (S : Sh) (L H : List Int) (t : Tok) (h3 : 1 ≤ S.size) (h4 : S.size ≤ 20) (hl : (L.length : Int) = S.size) (hI : KBa.In L) (hg : S.signed = true) (hH : halvesOf L = H ++ [12]) (hF : ∀ z ∈ H, 0 ≤ z ∧ z < 10) (hF2 : H.length ≤ 40) :
    Does w mean mg mb 256 2 [.ref x, .bytes (byteArr L) t] [(x, instObj 133 dx), (dx, dictOf (shapeEs w T (Str.ofString "packed") S) 11)] (fun nw v => nw = [] ∧ ∃ t', v = .int (joinF H) t') :=
  packed_all x dx T S L H 12 t h3 h4 hl hI (.inr ⟨hg, .inl rfl⟩) hH hF hF2
theorem packed_minus_does (x dx : Addr) (T : ShT) (S : Sh) (L H : List Int) (t : Tok) (h3 : 1 ≤ S.size) (h4 : S.size ≤ 20) (hl : (L.length : Int) = S.size) (hI : KBa.In L) (hg : S.signed = true) (hH : halvesOf L = H ++ [13]) (hF : ∀ z ∈ H, 0 ≤ z ∧ z < 10) (hF2 : H.length ≤ 40) :
    Does w mean mg mb 256 2 [.ref x, .bytes (byteArr L) t] [(x, instObj 133 dx), (dx, dictOf (shapeEs w T (Str.ofString "packed") S) 11)] (fun nw v => nw = [] ∧ ∃ t', v = .int (0 - joinF H) t') :=
  packed_all x dx T S L H 13 t h3 h4 hl hI (.inr ⟨hg, .inr rfl⟩) hH hF hF2
end
end
section
theorem kw_25_bnu : True := by
  k_with_none
  k_with "MyEnter" => (refine wpAny_call ?_; k_dflt (refine' code_defG ?k1 ?k2 ?k3 ?k4 ?k5 ?kA ?kF ?kK ?k6 ?k7 ?k8 ?k9 ?kB ?_ ?c2 ?c3 ?c4 ?c5; (case kA => exact rfl); (case kF => exact rfl); (case kK => assumption); (case k1 => k_asm); (case k2 => k_asm); (case k3 => k_asm); (case k4 => k_asm); (case k5 => k_asm); (case k6 => k_is); (case k7 => k_is); (case k8 => ktr_room); (case k9 => first | exact BindsTo.of_eq rfl | exact binds_K (by k_in) rfl (by k_is) rfl rfl rfl); (case c5 => decide); (case kB => exact locs rfl); (case c2 => exact rfl); (case c3 => exact rfl); (case c4 => exact rfl); k_whole; intro g' L' h' FG' F' N' B' X' T' kG'; (try dsimp only); (try k_lift B'); (try k_fold)))
  k_with "binaryOp FloorDiv int int" => (k_here; (with_reducible refine floordiv_int ?d0 ?_ (Or.inl ?d1)); (case d0 => first | with_reducible assumption | decide | omega); (case d1 => first | with_reducible assumption | exact PyProof.noPylong_of_log2 (by decide +kernel)))
  k_with "MyKEnter" => ((fail_if_success k_inElt); (refine' code_defC ?k1 ?k2 ?k3 ?k4 ?k5 ?kA ?kF ?kK ?k6 ?k7 ?k8 ?k9 ?kB ?kD ?_ ?c2 ?c3 ?c4; (case kA => exact rfl); (case kF => exact rfl); (case kK => exact rfl); (case k1 => k_asm); (case k2 => k_asm); (case k3 => k_asm); (case k4 => k_asm); (case k5 => k_asm); (case k6 => k_is); (case k7 => k_is); (case k8 => ktr_room); (case k9 => first | exact BindsTo.of_eq rfl | exact binds_K (by k_in) rfl (by k_is) rfl rfl rfl | fail "k_enter: no rule for these arguments"); (case kB => exact rfl); (case kD => decide +kernel); (case c2 => exact rfl); (case c3 => exact rfl); (case c4 => exact rfl); k_whole; intro g' L' h' tk' cells' FG' F' N' Y' B' X' T' l1; (try k_lt l1); k_cells Y'; (try simp only [List.cons_append, List.nil_append] at N'); (try dsimp only); (try k_lift B'); (try k_fold)))
  k_with "MyKEnter" => ((fail_if_success k_inElt); (refine' code_def ?k1 ?k2 ?k3 ?k4 ?k5 ?kA ?kF ?kK ?k6 ?k7 ?k8 ?k9 ?kB ?_ ?c2 ?c3 ?c4 ?c5; (case kA => exact rfl); (case kF => exact rfl); (case kK => exact rfl); (case k1 => k_asm); (case k2 => k_asm); (case k3 => k_asm); (case k4 => k_asm); (case k5 => k_asm); (case k6 => k_is); (case k7 => k_is); (case k8 => ktr_room); (case k9 => first | exact BindsTo.of_eq rfl | exact binds_K (by k_in) rfl (by k_is) rfl rfl rfl | fail "k_enter: no rule for these arguments"); (case c5 => decide); (case kB => exact locs rfl); (case c2 => exact rfl); (case c3 => exact rfl); (case c4 => exact rfl); k_whole; intro g' L' h' FG' F' N' B' X' T'; (try dsimp only); (try k_lift B'); (try k_fold)))
  k_with "MyPre" => first | with_reducible assumption | omega | with_reducible decide | fail "MyPre"
  k_with "execs cons" => ((fail_if_success k_inElt); first | (with_reducible refine consQ (by with_reducible assumption) (fun Q9 hQ9 => ?_)) | (with_reducible refine consQQ (fun Q8 hQ8 Q9 hQ9 => ?_)))
  k_with "execs cons" => (k_made; walk_at "execs cons")
  k_with "execs cons" => ((with_reducible show wpAny _ _ _ _ _ (Shared.mk _ _ _ (@HAdd.hAdd Nat Nat Nat _ _ _) _)); refine stGen s rfl rfl rfl (fun tk9 => ?_); (try dsimp only))
  k_with "MyQ" => ((fail_if_success (with_reducible show wpAny _ _ _ _ _ _)); (with_reducible first | refine qNext (by with_reducible assumption) ?_ | refine qRet (by with_reducible assumption) ?_ | refine qBrk (by with_reducible assumption) ?_ | refine qCont (by with_reducible assumption) ?_ | refine qGen (by with_reducible assumption) ?_); (try dsimp only))
  k_with "MyAll" => first | k_extra "MyQ" | (k_unfold; (try dsimp only)) | (k_end; kc_close) | walk1 | (dsimp only; walk1) | (leave1; walk_say "STEP leave1"; (try dsimp only)) | fail "no step"
  k_with "eval Name" => (k_here; (with_reducible show wpAny _ _ (eval (Expr.Name _ _) (envOf _ _ _ _ _)) _ _ _); k_dflt (refine' ld ?k1 ?k2 ?_ rfl (by kernel_rfl!) (by kernel_rfl!); (case k1 => k_asm); (case k2 => exact rfl); k_whole))
  k_with "MySize" => ((with_reducible show List.length (List.nil) ≤ _); exact Nat.zero_le _)
  k_with "MyKSub" => (intro p77 hp77; (repeat (first | with_reducible exact hp77 | with_reducible refine List.mem_cons_of_mem _ ?_)); done)
  trivial
noncomputable def joinB (L : List Int) : Int := L.foldl (fun a c => 256 * a + c) 0
noncomputable def binOf (sg : Bool) (L : List Int) : Int := if sg = true ∧ 127 < L.getD 0 0 then joinB L - 256 ^ L.length else joinB L
theorem binOf_1 {sg : Bool} {L : List Int} (h : sg = true) (h2 : 127 < L.getD (Int.toNat 0) 0) : List.foldl (fun a => HAdd.hAdd (256 * a)) 0 L - 256 ^ ((L.length : Int)).toNat = binOf sg L := by
  rw [binOf, if_pos ⟨h, h2⟩]; rfl
theorem binOf_2 {sg : Bool} {L : List Int} (h2 : ¬ 127 < L.getD (Int.toNat 0) 0) : List.foldl (fun a => HAdd.hAdd (256 * a)) 0 L = binOf sg L := by
  rw [binOf, if_neg (fun h => h2 h.2)]; rfl
theorem binOf_3 {sg : Bool} {L : List Int} (h : sg = false) : List.foldl (fun a => HAdd.hAdd (256 * a)) 0 L = binOf sg L := by
  rw [binOf, if_neg (fun h2 => absurd h2.1 (by rw [h]; decide))]; rfl
section
variable {w : World} {mean : ExcName → Option Value} {mg mb : Str → Option Value}
theorem binary_units_does (x dx : Addr) (T : ShT) (S : Sh) (L : List Int) (t : Tok) (h3 : 1 ≤ S.size) (h4 : S.size ≤ 20) (hl : (L.length : Int) = S.size) (hI : KBa.In L) :
    Does w mean mg mb 263 2 [.ref x, .bytes (byteArr L) t] [(x, instObj 133 dx), (dx, dictOf (shapeEs w T (Str.ofString "binary") S) 11)] (fun nw v => nw = [] ∧ ∃ t', v = .int (binOf S.signed L) t') := by
  refine unBox ?_
  simp (zetaDelta := true) (disch := (k_dflt (
    refine inBox ?_
    intro dp un gd cn cs a ccd cl outer A₀ base h₀ L' m s Q E B F X N T hk hd hu hret
    have cE := InElt.start s.heap
    walk_at "MyEnter"
    k_steps
    · exact hret _ _ _ _ (by assumption) (newsTake 0 (by assumption)) ⟨rfl, _, congrArg (Value.int · _) (binOf_1 (by assumption) (by assumption))⟩
    · exact hret _ _ _ _ (by assumption) (newsTake 0 (by assumption)) ⟨rfl, _, congrArg (Value.int · _) (binOf_2 (by assumption))⟩
    · exact hret _ _ _ _ (by assumption) (newsTake 0 (by assumption)) ⟨rfl, _, congrArg (Value.int · _) (binOf_3 (by assumption))⟩
    ))) only [↓Box.of]
end
end
section
theorem kw_30_round : True := by
  k_with_none
  k_with "MyEnter" => (refine wpAny_call ?_; k_dflt (refine' code_defG ?k1 ?k2 ?k3 ?k4 ?k5 ?kA ?kF ?kK ?k6 ?k7 ?k8 ?k9 ?kB ?_ ?c2 ?c3 ?c4 ?c5; (case kA => exact rfl); (case kF => exact rfl); (case kK => assumption); (case k1 => k_asm); (case k2 => k_asm); (case k3 => k_asm); (case k4 => k_asm); (case k5 => k_asm); (case k6 => k_is); (case k7 => k_is); (case k8 => ktr_room); (case k9 => first | exact BindsTo.of_eq rfl | exact binds_K (by k_in) rfl (by k_is) rfl rfl rfl); (case c5 => decide); (case kB => exact locs rfl); (case c2 => exact rfl); (case c3 => exact rfl); (case c4 => exact rfl); k_whole; intro g' L' h' FG' F' N' B' X' T' kG'; (try dsimp only); (try k_lift B'); (try k_fold)))
  k_with "binaryOp FloorDiv int int" => (k_here; (with_reducible refine floordiv_int ?d0 ?_ (Or.inl ?d1)); (case d0 => first | with_reducible assumption | decide | omega); (case d1 => first | with_reducible assumption | exact PyProof.noPylong_of_log2 (by decide +kernel)))
  k_with "MyKEnter" => ((fail_if_success k_inElt); (refine' code_defC ?k1 ?k2 ?k3 ?k4 ?k5 ?kA ?kF ?kK ?k6 ?k7 ?k8 ?k9 ?kB ?kD ?_ ?c2 ?c3 ?c4; (case kA => exact rfl); (case kF => exact rfl); (case kK => exact rfl); (case k1 => k_asm); (case k2 => k_asm); (case k3 => k_asm); (case k4 => k_asm); (case k5 => k_asm); (case k6 => k_is); (case k7 => k_is); (case k8 => ktr_room); (case k9 => first | exact BindsTo.of_eq rfl | exact binds_K (by k_in) rfl (by k_is) rfl rfl rfl | fail "k_enter: no rule for these arguments"); (case kB => exact rfl); (case kD => decide +kernel); (case c2 => exact rfl); (case c3 => exact rfl); (case c4 => exact rfl); k_whole; intro g' L' h' tk' cells' FG' F' N' Y' B' X' T' l1; (try k_lt l1); k_cells Y'; (try simp only [List.cons_append, List.nil_append] at N'); (try dsimp only); (try k_lift B'); (try k_fold)))
  k_with "MyKEnter" => ((fail_if_success k_inElt); (refine' code_def ?k1 ?k2 ?k3 ?k4 ?k5 ?kA ?kF ?kK ?k6 ?k7 ?k8 ?k9 ?kB ?_ ?c2 ?c3 ?c4 ?c5; (case kA => exact rfl); (case kF => exact rfl); (case kK => exact rfl); (case k1 => k_asm); (case k2 => k_asm); (case k3 => k_asm); (case k4 => k_asm); (case k5 => k_asm); (case k6 => k_is); (case k7 => k_is); (case k8 => ktr_room); (case k9 => first | exact BindsTo.of_eq rfl | exact binds_K (by k_in) rfl (by k_is) rfl rfl rfl | fail "k_enter: no rule for these arguments"); (case c5 => decide); (case kB => exact locs rfl); (case c2 => exact rfl); (case c3 => exact rfl); (case c4 => exact rfl); k_whole; intro g' L' h' FG' F' N' B' X' T'; (try dsimp only); (try k_lift B'); (try k_fold)))
  k_with "MyPre" => first | with_reducible assumption | omega | with_reducible decide | fail "MyPre"
  k_with "execs cons" => ((fail_if_success k_inElt); first | (with_reducible refine consQ (by with_reducible assumption) (fun Q9 hQ9 => ?_)) | (with_reducible refine consQQ (fun Q8 hQ8 Q9 hQ9 => ?_)))
  k_with "execs cons" => (k_made; walk_at "execs cons")
  k_with "execs cons" => ((with_reducible show wpAny _ _ _ _ _ (Shared.mk _ _ _ (@HAdd.hAdd Nat Nat Nat _ _ _) _)); refine stGen s rfl rfl rfl (fun tk9 => ?_); (try dsimp only))
  k_with "MyQ" => ((fail_if_success (with_reducible show wpAny _ _ _ _ _ _)); (with_reducible first | refine qNext (by with_reducible assumption) ?_ | refine qRet (by with_reducible assumption) ?_ | refine qBrk (by with_reducible assumption) ?_ | refine qCont (by with_reducible assumption) ?_ | refine qGen (by with_reducible assumption) ?_); (try dsimp only))
  k_with "MyAll" => first | k_extra "MyQ" | (k_unfold; (try dsimp only)) | (k_end; kc_close) | walk1 | (dsimp only; walk1) | (leave1; walk_say "STEP leave1"; (try dsimp only)) | fail "no step"
  k_with "eval Name" => (k_here; (with_reducible show wpAny _ _ (eval (Expr.Name _ _) (envOf _ _ _ _ _)) _ _ _); k_dflt (refine' ld ?k1 ?k2 ?_ rfl (by kernel_rfl!) (by kernel_rfl!); (case k1 => k_asm); (case k2 => exact rfl); k_whole))
  k_with "MySize" => ((with_reducible show List.length (List.nil) ≤ _); exact Nat.zero_le _)
  k_with "MyKSub" => (intro p77 hp77; (repeat (first | with_reducible exact hp77 | with_reducible refine List.mem_cons_of_mem _ ?_)); done)
  trivial
section
theorem emod_mul' (n b m : Int) (hb : 0 < b) (hm : 0 < m) : n % (b * m) = b * (n / b % m) + n % b := by
  have h1 := Int.mul_ediv_add_emod n b
  have h2 := Int.mul_ediv_add_emod (n / b) m
  have h3 := Int.emod_nonneg n (show b ≠ 0 by omega)
  have h4 := Int.emod_lt_of_pos n hb
  have h5 := Int.emod_nonneg (n / b) (show m ≠ 0 by omega)
  have h6 := Int.emod_lt_of_pos (n / b) hm
  have e : n = (b * (n / b % m) + n % b) + b * m * (n / b / m) := by
    have : b * (m * (n / b / m) + n / b % m) + n % b = n := by rw [h2]; exact h1
    rw [Int.mul_add] at this
    rw [Int.mul_assoc]
    omega
  have h7 : 0 ≤ b * (n / b % m) := Int.mul_nonneg (by omega) h5
  have h8 : b * (n / b % m) ≤ b * (m - 1) := Int.mul_le_mul_of_nonneg_left (by omega) (by omega)
  have h9 : b * (m - 1) = b * m - b := by rw [Int.mul_sub, Int.mul_one]
  conv => lhs; rw [e]
  rw [Int.add_mul_emod_self_left]
  exact Int.emod_eq_of_lt (by omega) (by omega)
theorem figsB_succ (b n : Int) (c : Nat) (hb : 0 ≤ b) : figsB b n (c + 1) = figsB b (n / b) c ++ [n % b] := by
  have e : lowB b n (c + 1) = n % b :: lowB b (n / b) c := by
    rw [lowB, List.range_succ_eq_map, List.map_cons, List.map_map]
    refine congr (congrArg _ (by rw [Int.pow_zero, Int.ediv_one])) ?_
    refine List.map_congr_left fun i _ => ?_
    show n / b ^ (i + 1) % b = n / b / b ^ i % b
    rw [Int.ediv_ediv_of_nonneg hb, Int.pow_succ, Int.mul_comm]
  rw [figsB, e, List.reverse_cons]
  rfl
noncomputable def joinG (b : Int) (L : List Int) : Int := L.foldl (fun a c => b * a + c) 0
theorem joinG_snoc (b : Int) (L : List Int) (f : Int) : joinG b (L ++ [f]) = b * joinG b L + f := by rw [joinG, List.foldl_append]; rfl
theorem joinG_figs (b : Int) (hb : 0 < b) : ∀ (c : Nat) (n : Int), joinG b (figsB b n c) = n % b ^ c
  | 0, n => by rw [Int.pow_zero, Int.emod_one]; rfl
  | c + 1, n => by
    rw [figsB_succ b n c (by omega), joinG_snoc, joinG_figs b hb c (n / b), Int.pow_succ, Int.mul_comm (b ^ c) b]
    exact (emod_mul' n b (b ^ c) hb (Int.pow_pos hb)).symm
theorem joinF_figs (c : Nat) (n : Int) (h0 : 0 ≤ n) (h1 : n < 10 ^ c) : joinF (figs n c) = n := by
  have := joinG_figs 10 (by decide) c n
  rw [Int.emod_eq_of_lt h0 h1] at this
  exact this
theorem joinB_figs (c : Nat) (n : Int) (h0 : 0 ≤ n) (h1 : n < 256 ^ c) : joinB (figsB 256 n c) = n := by
  have := joinG_figs 256 (by decide) c n
  rw [Int.emod_eq_of_lt h0 h1] at this
  exact this
theorem disp_in {d : Nat} {n : Int} : ∀ z ∈ (figs n d).map (48 + ·), 48 ≤ z ∧ z < 58 := fun z hz => by
  obtain ⟨f, hf, rfl⟩ := List.mem_map.mp hz
  have := figs_in f hf
  omega
theorem disp_back (L : List Int) : (L.map (48 + ·)).map (fun a => a - 48) = L := by
  rw [List.map_map]
  refine (List.map_congr_left fun z _ => ?_).trans (List.map_id L)
  show 48 + z - 48 = z
  omega
theorem lastFig {X : List Int} {d : Nat} {v w : Int} (h : X.length = d) : (X ++ [v]).set d w = X ++ [w] := by
  subst h
  rw [List.set_append_right _ _ (Nat.le_refl _), Nat.sub_self]
  rfl
theorem lastGet {X : List Int} {d : Nat} {v : Int} (h : X.length = d) : (X ++ [v]).getD d 0 = v := by
  subst h
  rw [List.getD_eq_getElem?_getD, List.getElem?_append_right (Nat.le_refl _), Nat.sub_self]
  rfl
noncomputable abbrev codesOf (n : Int) (d : Nat) : List Int := (figs n d).map (48 + ·)
theorem codes_succ (n : Int) (d : Nat) : codesOf n (d + 1) = codesOf (n / 10) d ++ [48 + n % 10] := by
  rw [codesOf, figs, figsB_succ 10 n d (by decide), List.map_append]
  rfl
theorem codes_len (n : Int) (d : Nat) : (codesOf n d).length = d := by rw [codesOf, List.length_map, figs_length]
theorem dispOf_signed' (d : Nat) (u : Int) : dispOf (d + 1) true u = codesOf ((if u < 0 then -u else u) / 10) d ++ [(((overRow u).getD ((if u < 0 then -u else u) % 10).toNat 0).toNat : Int)] := by
  have e : dispOf (d + 1) true u = (codesOf (if u < 0 then -u else u) (d + 1)).set (((codesOf (if u < 0 then -u else u) (d + 1)).length : Int) - 1).toNat (((overRow u).getD ((codesOf (if u < 0 then -u else u) (d + 1)).getD (((codesOf (if u < 0 then -u else u) (d + 1)).length : Int) - 1).toNat 0 - 48).toNat 0).toNat : Int) := rfl
  rw [e, codes_len, codes_succ]
  have e2 : (((d + 1 : Nat) : Int) - 1).toNat = d := by omega
  rw [e2, lastGet (codes_len _ _), lastFig (codes_len _ _)]
  have e3 : 48 + (if u < 0 then -u else u) % 10 - 48 = (if u < 0 then -u else u) % 10 := by omega
  rw [e3]
theorem over_in : ∀ j < 10, ∀ row ∈ [plusRow, minusRow], (((row.getD j 0).toNat : Int)).toNat.toUInt8 = row.getD j 0 := by decide +kernel
theorem over_plus : ∀ j < 10, plusRow.toArray.contains (((plusRow.getD j 0).toNat : Int)).toNat.toUInt8 = true ∧ PySem.Builtin.Bytes.find? plusRow.toArray #[(((plusRow.getD j 0).toNat : Int)).toNat.toUInt8] 0 10 = some j := by decide +kernel
theorem over_minus : ∀ j < 10, plusRow.toArray.contains (((minusRow.getD j 0).toNat : Int)).toNat.toUInt8 = false ∧ minusRow.toArray.contains (((minusRow.getD j 0).toNat : Int)).toNat.toUInt8 = true ∧ PySem.Builtin.Bytes.find? minusRow.toArray #[(((minusRow.getD j 0).toNat : Int)).toNat.toUInt8] 0 10 = some j := by decide +kernel
theorem Does.mono {w : World} {mean : ExcName → Option Value} {mg mb : Str → Option Value} {f : Addr} {deep : Nat} {vs : List Value} {N0 : List (Addr × Obj)} {post post' : List (Addr × Obj) → Value → Prop}
    (h : Does w mean mg mb f deep vs N0 post) (hp : ∀ nw v, post nw v → post' nw v) : Does w mean mg mb f deep vs N0 post' :=
  fun dp un gd cn cs a ccd cl outer A₀ base h₀ L m s Q E B F X N T hk hd hu hret => h dp un gd cn cs a ccd cl outer A₀ base h₀ L m s Q E B F X N T hk hd hu fun v h' tk' nw e n p => hret v h' tk' nw e n (hp _ _ p)
theorem absI0 (k : Int) : 0 ≤ (if k < 0 then -k else k) := by split <;> omega
theorem absIlt {k X : Int} (h1 : k < X) (h2 : -k < X) : (if k < 0 then -k else k) < X := by split <;> assumption
theorem predOf {d : Int} (h : 1 ≤ d) : ∃ n : Nat, d.toNat = n + 1 := ⟨d.toNat - 1, by omega⟩
theorem sizePred {s g : Int} {d : Nat} (hs : s = g) (hd : g.toNat = d + 1) : (s - 1).toNat = d := by omega
theorem lenPred {g : Int} {d : Nat} (h : 1 ≤ g) (hd : g.toNat = d + 1) : ((d + (0 + 1) : Nat) : Int) = g := by omega
theorem in58 {z : Int} (h : 48 ≤ z ∧ z < 58) : 0 ≤ z ∧ z < 256 := by omega
theorem digitNat (n : Int) : ((n % 10).toNat : Int) = n % 10 ∧ (n % 10).toNat < 10 := by omega
section
variable {w : World} {mean : ExcName → Option Value} {mg mb : Str → Option Value}
theorem display_units_does (x dx : Addr) (T : ShT) (S : Sh) (k : Int) (t : Tok) (h1 : 1 ≤ S.digits) (h2 : S.digits ≤ 18) (hs : S.size = S.digits) (hk1 : k < 10 ^ S.digits.toNat) (hk2 : -k < 10 ^ S.digits.toNat) (hk3 : S.signed = true ∨ 0 ≤ k) :
    Does w mean mg mb 249 2 [.ref x, .bytes (byteArr (dispOf S.digits.toNat S.signed k)) t] [(x, instObj 133 dx), (dx, dictOf (shapeEs w T (Str.ofString "display") S) 11)] (fun nw v => nw = [] ∧ ∃ t', v = .int k t') := by
  obtain ⟨d, hd⟩ : ∃ d : Nat, S.digits.toNat = d + 1 := predOf h1
  have hn0 := absI0 k
  have hn1 : (if k < 0 then -k else k) < 10 ^ (d + 1) := by rw [← hd]; exact absIlt hk1 hk2
  have hj := digitNat (if k < 0 then -k else k)
  have hsz : (S.size - 1).toNat = d := sizePred hs hd
  have hset : ∀ row : List UInt8, ((codesOf ((if k < 0 then -k else k) / 10) d ++ [((row.getD ((if k < 0 then -k else k) % 10).toNat 0).toNat : Int)]).map (fun a => a - 48)).set (S.size - 1).toNat ((((if k < 0 then -k else k) % 10).toNat : Nat) : Int) = figs (if k < 0 then -k else k) (d + 1) := fun row => by
    rw [hsz, List.map_append, disp_back, hj.1]
    rw [show figs (if k < 0 then -k else k) (d + 1) = figs ((if k < 0 then -k else k) / 10) d ++ [(if k < 0 then -k else k) % 10] from figsB_succ 10 _ d (by decide)]
    exact lastFig (figs_length _ _)
  have hget : ∀ row : List UInt8, (codesOf ((if k < 0 then -k else k) / 10) d ++ [((row.getD ((if k < 0 then -k else k) % 10).toNat 0).toNat : Int)]).getD (S.size - 1).toNat 0 = ((row.getD ((if k < 0 then -k else k) % 10).toNat 0).toNat : Int) := fun row => by
    rw [hsz]; exact lastGet (codes_len _ _)
  have hin : ∀ row : List UInt8, KBa.In (codesOf ((if k < 0 then -k else k) / 10) d ++ [((row.getD ((if k < 0 then -k else k) % 10).toNat 0).toNat : Int)]) := fun row z hz => by
    rcases List.mem_append.mp hz with hz | hz
    · exact in58 (disp_in z hz)
    · rw [List.mem_singleton.mp hz]; exact u8_in
  have hlen : ∀ v : Int, ((codesOf ((if k < 0 then -k else k) / 10) d ++ [v]).length : Int) = S.digits := fun v => by
    rw [List.length_append, codes_len]; exact lenPred h1 hd
  cases hg : S.signed with
  | false =>
    have hk0 : 0 ≤ k := by rcases hk3 with h | h; rw [hg] at h; cases h; exact h
    have e : dispOf S.digits.toNat false k = codesOf k S.digits.toNat := by
      have : dispOf S.digits.toNat false k = codesOf (if k < 0 then -k else k) S.digits.toNat := rfl
      rw [this, if_neg (Int.not_lt.mpr hk0)]
    rw [e]
    refine (display_plain_does x dx T S _ t h1 h2 hs hg (by rw [codes_len]; omega) (fun z hz => in58 (disp_in z hz)) disp_in).mono ?_
    rintro nw v ⟨rfl, t', rfl⟩
    refine ⟨rfl, t', congrArg (Value.int · _) ?_⟩
    exact (congrArg joinF (disp_back _)).trans (joinF_figs _ k hk0 hk1)
  | true =>
    rw [hd, dispOf_signed']
    by_cases hneg : k < 0
    · have hrow : overRow k = minusRow := if_pos hneg
      rw [hrow]
      obtain ⟨c1, c2, c3⟩ := over_minus _ hj.2
      refine (display_minus_does x dx T S _ _ t h1 h2 hs hg (hlen _) (hin _) (by rw [hget]; exact u8_in.1) (by rw [hget]; exact u8_in.2) (by rw [hget]; exact c1) (by rw [hget]; exact c2) (by rw [hget]; exact c3) (by rw [hset]; exact figs_in)).mono ?_
      rintro nw v ⟨rfl, t', rfl⟩
      refine ⟨rfl, t', congrArg (Value.int · _) ?_⟩
      rw [hset, joinF_figs _ _ hn0 hn1, if_pos hneg, Int.zero_sub, Int.neg_neg]
    · have hrow : overRow k = plusRow := if_neg hneg
      rw [hrow]
      obtain ⟨c1, c3⟩ := over_plus _ hj.2
      refine (display_plus_does x dx T S _ _ t h1 h2 hs hg (hlen _) (hin _) (by rw [hget]; exact u8_in.1) (by rw [hget]; exact u8_in.2) (by rw [hget]; exact c1) (by rw [hget]; exact c3) (by rw [hset]; exact figs_in)).mono ?_
      rintro nw v ⟨rfl, t', rfl⟩
      refine ⟨rfl, t', congrArg (Value.int · _) ?_⟩
      rw [hset, joinF_figs _ _ hn0 hn1, if_neg hneg]
end
end
end
section
theorem kw_31_round : True := by
  k_with_none
  k_with "MyEnter" => (refine wpAny_call ?_; k_dflt (refine' code_defG ?k1 ?k2 ?k3 ?k4 ?k5 ?kA ?kF ?kK ?k6 ?k7 ?k8 ?k9 ?kB ?_ ?c2 ?c3 ?c4 ?c5; (case kA => exact rfl); (case kF => exact rfl); (case kK => assumption); (case k1 => k_asm); (case k2 => k_asm); (case k3 => k_asm); (case k4 => k_asm); (case k5 => k_asm); (case k6 => k_is); (case k7 => k_is); (case k8 => ktr_room); (case k9 => first | exact BindsTo.of_eq rfl | exact binds_K (by k_in) rfl (by k_is) rfl rfl rfl); (case c5 => decide); (case kB => exact locs rfl); (case c2 => exact rfl); (case c3 => exact rfl); (case c4 => exact rfl); k_whole; intro g' L' h' FG' F' N' B' X' T' kG'; (try dsimp only); (try k_lift B'); (try k_fold)))
  k_with "binaryOp FloorDiv int int" => (k_here; (with_reducible refine floordiv_int ?d0 ?_ (Or.inl ?d1)); (case d0 => first | with_reducible assumption | decide | omega); (case d1 => first | with_reducible assumption | exact PyProof.noPylong_of_log2 (by decide +kernel)))
  k_with "MyKEnter" => ((fail_if_success k_inElt); (refine' code_defC ?k1 ?k2 ?k3 ?k4 ?k5 ?kA ?kF ?kK ?k6 ?k7 ?k8 ?k9 ?kB ?kD ?_ ?c2 ?c3 ?c4; (case kA => exact rfl); (case kF => exact rfl); (case kK => exact rfl); (case k1 => k_asm); (case k2 => k_asm); (case k3 => k_asm); (case k4 => k_asm); (case k5 => k_asm); (case k6 => k_is); (case k7 => k_is); (case k8 => ktr_room); (case k9 => first | exact BindsTo.of_eq rfl | exact binds_K (by k_in) rfl (by k_is) rfl rfl rfl | fail "k_enter: no rule for these arguments"); (case kB => exact rfl); (case kD => decide +kernel); (case c2 => exact rfl); (case c3 => exact rfl); (case c4 => exact rfl); k_whole; intro g' L' h' tk' cells' FG' F' N' Y' B' X' T' l1; (try k_lt l1); k_cells Y'; (try simp only [List.cons_append, List.nil_append] at N'); (try dsimp only); (try k_lift B'); (try k_fold)))
  k_with "MyKEnter" => ((fail_if_success k_inElt); (refine' code_def ?k1 ?k2 ?k3 ?k4 ?k5 ?kA ?kF ?kK ?k6 ?k7 ?k8 ?k9 ?kB ?_ ?c2 ?c3 ?c4 ?c5; (case kA => exact rfl); (case kF => exact rfl); (case kK => exact rfl); (case k1 => k_asm); (case k2 => k_asm); (case k3 => k_asm); (case k4 => k_asm); (case k5 => k_asm); (case k6 => k_is); (case k7 => k_is); (case k8 => ktr_room); (case k9 => first | exact BindsTo.of_eq rfl | exact binds_K (by k_in) rfl (by k_is) rfl rfl rfl | fail "k_enter: no rule for these arguments"); (case c5 => decide); (case kB => exact locs rfl); (case c2 => exact rfl); (case c3 => exact rfl); (case c4 => exact rfl); k_whole; intro g' L' h' FG' F' N' B' X' T'; (try dsimp only); (try k_lift B'); (try k_fold)))
  k_with "MyPre" => first | with_reducible assumption | omega | with_reducible decide | fail "MyPre"
  k_with "execs cons" => ((fail_if_success k_inElt); first | (with_reducible refine consQ (by with_reducible assumption) (fun Q9 hQ9 => ?_)) | (with_reducible refine consQQ (fun Q8 hQ8 Q9 hQ9 => ?_)))
  k_with "execs cons" => (k_made; walk_at "execs cons")
  k_with "execs cons" => ((with_reducible show wpAny _ _ _ _ _ (Shared.mk _ _ _ (@HAdd.hAdd Nat Nat Nat _ _ _) _)); refine stGen s rfl rfl rfl (fun tk9 => ?_); (try dsimp only))
  k_with "MyQ" => ((fail_if_success (with_reducible show wpAny _ _ _ _ _ _)); (with_reducible first | refine qNext (by with_reducible assumption) ?_ | refine qRet (by with_reducible assumption) ?_ | refine qBrk (by with_reducible assumption) ?_ | refine qCont (by with_reducible assumption) ?_ | refine qGen (by with_reducible assumption) ?_); (try dsimp only))
  k_with "MyAll" => first | k_extra "MyQ" | (k_unfold; (try dsimp only)) | (k_end; kc_close) | walk1 | (dsimp only; walk1) | (leave1; walk_say "STEP leave1"; (try dsimp only)) | fail "no step"
  k_with "eval Name" => (k_here; (with_reducible show wpAny _ _ (eval (Expr.Name _ _) (envOf _ _ _ _ _)) _ _ _); k_dflt (refine' ld ?k1 ?k2 ?_ rfl (by kernel_rfl!) (by kernel_rfl!); (case k1 => k_asm); (case k2 => exact rfl); k_whole))
  k_with "MySize" => ((with_reducible show List.length (List.nil) ≤ _); exact Nat.zero_le _)
  k_with "MyKSub" => (intro p77 hp77; (repeat (first | with_reducible exact hp77 | with_reducible refine List.mem_cons_of_mem _ ?_)); done)
  trivial
section
theorem halves_pair {a b : Int} (h0 : 0 ≤ a ∧ a < 16) (h1 : 0 ≤ b ∧ b < 16) : [(16 * a + b).fdiv 16, (16 * a + b).fmod 16] = [a, b] := by
  rw [Int.fdiv_eq_ediv_of_nonneg _ (by decide), Int.fmod_eq_emod_of_nonneg _ (by decide)]
  have e1 : (16 * a + b) / 16 = a := by omega
  have e2 : (16 * a + b) % 16 = b := by omega
  rw [e1, e2]
theorem halves_range : ∀ (sz : Nat) (H : List Int), H.length = 2 * sz → (∀ z ∈ H, 0 ≤ z ∧ z < 16) → halvesOf ((List.range sz).map fun i => 16 * H.getD (2 * i) 0 + H.getD (2 * i + 1) 0) = H
  | 0, [], _, _ => rfl
  | 0, _ :: _, h, _ => by simp at h
  | sz + 1, [], h, _ => by simp at h
  | sz + 1, [_], h, _ => by simp at h; omega
  | sz + 1, a :: b :: H, h, hr => by
    rw [List.range_succ_eq_map, List.map_cons, List.map_map]
    have ih := halves_range sz H (by simp only [List.length_cons] at h; omega) fun z hz => hr z (List.mem_cons_of_mem _ (List.mem_cons_of_mem _ hz))
    have e : ∀ L : List Int, ∀ c : Int, halvesOf (c :: L) = [c.fdiv 16, c.fmod 16] ++ halvesOf L := fun _ _ => rfl
    rw [e]
    have e2 : ((fun i => 16 * (a :: b :: H).getD (2 * i) 0 + (a :: b :: H).getD (2 * i + 1) 0) ∘ Nat.succ) = fun i => 16 * H.getD (2 * i) 0 + H.getD (2 * i + 1) 0 := by
      funext i
      show 16 * (a :: b :: H).getD (2 * (i + 1)) 0 + (a :: b :: H).getD (2 * (i + 1) + 1) 0 = _
      rw [show 2 * (i + 1) = 2 * i + 1 + 1 by omega, show 2 * i + 1 + 1 + 1 = (2 * i + 1) + 1 + 1 by omega]
      rfl
    rw [e2, ih]
    have e3 : [(16 * (a :: b :: H).getD (2 * 0) 0 + (a :: b :: H).getD (2 * 0 + 1) 0).fdiv 16, (16 * (a :: b :: H).getD (2 * 0) 0 + (a :: b :: H).getD (2 * 0 + 1) 0).fmod 16] = [a, b] :=
      halves_pair (hr a (List.mem_cons_self ..)) (hr b (List.mem_cons_of_mem _ (List.mem_cons_self ..)))
    rw [e3]
    rfl
theorem packH_length {sz : Nat} {sg : Bool} {u : Int} (h : 1 ≤ sz) : (packH sz sg u).length = 2 * sz := by
  rw [packH, List.length_append, figs_length]
  simp only [List.length_cons, List.length_nil]
  omega
theorem halves_pack {sz : Nat} {sg : Bool} {u : Int} (h : 1 ≤ sz) : halvesOf (packOf sz sg u) = packH sz sg u := by
  have e : packOf sz sg u = (List.range sz).map fun i => 16 * (packH sz sg u).getD (2 * i) 0 + (packH sz sg u).getD (2 * i + 1) 0 := by
    rw [packOf, rangeInts, List.map_map]
    refine List.map_congr_left fun i _ => ?_
    show 16 * (packH sz sg u).getD (0 + (i : Int) * 2).toNat 0 + (packH sz sg u).getD (0 + (i : Int) * 2 + 1).toNat 0 = _
    rw [show (0 + (i : Int) * 2).toNat = 2 * i by omega, show (0 + (i : Int) * 2 + 1).toNat = 2 * i + 1 by omega]
  rw [e]
  exact halves_range sz _ (packH_length h) packH_in
theorem pow10_le {a b : Nat} (h : a ≤ b) : (10 : Int) ^ a ≤ 10 ^ b := by
  have := Nat.pow_le_pow_right (show 10 > 0 by decide) h
  have e : ∀ c : Nat, ((10 ^ c : Nat) : Int) = (10 : Int) ^ c := fun c => by rw [Int.natCast_pow]; rfl
  rw [← e, ← e]
  omega
theorem figsB_head (b n : Int) (c : Nat) : figsB b n (c + 1) = (n / b ^ c % b) :: figsB b n c := by
  rw [figsB, lowB, List.range_succ, List.map_append, List.reverse_append]
  rfl
theorem two_back {P k : Int} {c : Nat} (hP : P = 256 ^ c) (hk1 : k < 128 * P) (hk2 : -k ≤ 128 * P) (hk0 : k < 0) :
    let n := k % 256 ^ (c + 1)
    127 < (figsB 256 n (c + 1)).getD 0 0 ∧ joinB (figsB 256 n (c + 1)) - 256 ^ (figsB 256 n (c + 1)).length = k := by
  have hP0 : 0 < P := by rw [hP]; exact Int.pow_pos (by decide)
  have e1 : (256 : Int) ^ (c + 1) = 256 * P := by rw [Int.pow_succ, hP, Int.mul_comm]
  have en : k % 256 ^ (c + 1) = k + 256 * P := by
    rw [e1]
    have : k % (256 * P) = (k + 256 * P) % (256 * P) := by rw [Int.add_emod_right]
    rw [this]
    exact Int.emod_eq_of_lt (by omega) (by omega)
  dsimp only
  refine ⟨?_, ?_⟩
  · rw [figsB_head, ← hP, en]
    show 127 < (k + 256 * P) / P % 256
    have h1 : (128 : Int) ≤ (k + 256 * P) / P := (Int.le_ediv_iff_mul_le hP0).mpr (by omega)
    have h2 : (k + 256 * P) / P < 256 := (Int.ediv_lt_iff_lt_mul hP0).mpr (by omega)
    rw [Int.emod_eq_of_lt (by omega) h2]
    omega
  · rw [figsB_length, joinB_figs _ _ (by rw [en]; omega) (by rw [en, e1]; omega), en, e1]
    omega
theorem two_there {P k : Int} {c : Nat} (hP : P = 256 ^ c) (hk1 : k < 128 * P) (hk0 : 0 ≤ k) :
    let n := k % 256 ^ (c + 1)
    ¬ 127 < (figsB 256 n (c + 1)).getD 0 0 ∧ joinB (figsB 256 n (c + 1)) = k := by
  have hP0 : 0 < P := by rw [hP]; exact Int.pow_pos (by decide)
  have e1 : (256 : Int) ^ (c + 1) = 256 * P := by rw [Int.pow_succ, hP, Int.mul_comm]
  have en : k % 256 ^ (c + 1) = k := by rw [e1]; exact Int.emod_eq_of_lt (by omega) (by omega)
  dsimp only
  refine ⟨?_, ?_⟩
  · rw [figsB_head, ← hP, en]
    show ¬ 127 < k / P % 256
    have h2 : k / P < 128 := (Int.ediv_lt_iff_lt_mul hP0).mpr (by omega)
    have h3 : 0 ≤ k / P := Int.ediv_nonneg hk0 (by omega)
    rw [Int.emod_eq_of_lt h3 (by omega)]
    omega
  · rw [joinB_figs _ _ (by rw [en]; omega) (by rw [en, e1]; omega), en]
theorem bin_back {sz : Nat} {sg : Bool} {k B : Int} (hB : 2 * B ≤ 256 ^ sz) (hsz : 1 ≤ sz) (hk1 : k < B) (hk2 : -k < B) (hk3 : sg = true ∨ 0 ≤ k) : binOf sg (figsB 256 (k % 256 ^ sz) sz) = k := by
  obtain ⟨c, rfl⟩ : ∃ c, sz = c + 1 := ⟨sz - 1, by omega⟩
  have e1 : (256 : Int) ^ (c + 1) = 256 * 256 ^ c := by rw [Int.pow_succ, Int.mul_comm]
  rw [e1] at hB
  by_cases h0 : 0 ≤ k
  · obtain ⟨a1, a2⟩ := two_there (c := c) rfl (show k < 128 * 256 ^ c by omega) h0
    rw [binOf, if_neg (fun h => a1 h.2)]
    exact a2
  · obtain ⟨a1, a2⟩ := two_back (c := c) rfl (show k < 128 * 256 ^ c by omega) (by omega) (by omega)
    rw [binOf, if_pos ⟨by rcases hk3 with h | h; exact h; exact absurd h h0, a1⟩]
    exact a2
/-- a number's octets, how many -/
noncomputable def Us.size (U : Us) (d : Int) : Int := match U with
  | .packed => d / 2 + 1
  | .display => d
  | .binary => if d ≤ 4 then 2 else if d ≤ 9 then 4 else 8
theorem bin_bound {d : Int} (h1 : 1 ≤ d) (h2 : d ≤ 18) : 2 * (10 : Int) ^ d.toNat ≤ 256 ^ (Us.size .binary d).toNat := by
  obtain ⟨n, rfl⟩ : ∃ n : Nat, d = n := ⟨d.toNat, by omega⟩
  have : ∀ n : Nat, n < 19 → 1 ≤ n → 2 * (10 : Int) ^ n ≤ 256 ^ (Us.size .binary (n : Int)).toNat := by decide +kernel
  exact this n (by omega) (by omega)
end
theorem packSz {d s : Int} (h1 : 1 ≤ d) (h2 : d ≤ 18) (hs : s = d / 2 + 1) : 1 ≤ s ∧ s ≤ 20 ∧ d.toNat ≤ 2 * s.toNat - 1 ∧ 2 * s.toNat - 1 ≤ 40 ∧ (s.toNat : Int) = s ∧ 1 ≤ s.toNat := by omega
section
variable {w : World} {mean : ExcName → Option Value} {mg mb : Str → Option Value}
theorem packed_units_does (x dx : Addr) (T : ShT) (S : Sh) (k : Int) (t : Tok) (h1 : 1 ≤ S.digits) (h2 : S.digits ≤ 18) (hs : S.size = S.digits / 2 + 1) (hk1 : k < 10 ^ S.digits.toNat) (hk2 : -k < 10 ^ S.digits.toNat) (hk3 : S.signed = true ∨ 0 ≤ k) :
    Does w mean mg mb 256 2 [.ref x, .bytes (byteArr (packOf S.size.toNat S.signed k)) t] [(x, instObj 133 dx), (dx, dictOf (shapeEs w T (Str.ofString "packed") S) 11)] (fun nw v => nw = [] ∧ ∃ t', v = .int k t') := by
  have hz := packSz h1 h2 hs
  have hp := pow10_le hz.2.2.1
  have hn0 := absI0 k
  have hn1 := absIlt (Int.lt_of_lt_of_le hk1 hp) (Int.lt_of_lt_of_le hk2 hp)
  have hj := joinF_figs _ _ hn0 hn1
  have hl : ((packOf S.size.toNat S.signed k).length : Int) = S.size := by rw [packOf_length]; exact hz.2.2.2.2.1
  have hH := halves_pack (sz := S.size.toNat) (sg := S.signed) (u := k) hz.2.2.2.2.2
  have hfl : (figs (if k < 0 then -k else k) (2 * S.size.toNat - 1)).length ≤ 40 := by rw [figs_length]; exact hz.2.2.2.1
  cases hg : S.signed with
  | false =>
    have hk0 : 0 ≤ k := by rcases hk3 with h | h; rw [hg] at h; cases h; exact h
    rw [packH, markOf_un hg] at hH
    rw [← hg]
    refine (packed_plain_does x dx T S _ _ t hz.1 hz.2.1 hl packOf_in hH figs_in hfl).mono ?_
    rintro nw v ⟨rfl, t', rfl⟩
    exact ⟨rfl, t', congrArg (Value.int · _) (hj.trans (if_neg (Int.not_lt.mpr hk0)))⟩
  | true =>
    rw [← hg]
    by_cases hneg : k < 0
    · rw [packH, markOf_neg hg hneg] at hH
      refine (packed_minus_does x dx T S _ _ t hz.1 hz.2.1 hl packOf_in hg hH figs_in hfl).mono ?_
      rintro nw v ⟨rfl, t', rfl⟩
      refine ⟨rfl, t', congrArg (Value.int · _) ?_⟩
      rw [hj, if_pos hneg, Int.zero_sub, Int.neg_neg]
    · rw [packH, markOf_pos hg hneg] at hH
      refine (packed_plus_does x dx T S _ _ t hz.1 hz.2.1 hl packOf_in hg hH figs_in hfl).mono ?_
      rintro nw v ⟨rfl, t', rfl⟩
      exact ⟨rfl, t', congrArg (Value.int · _) (hj.trans (if_neg hneg))⟩
theorem binary_back_does (x dx : Addr) (T : ShT) (S : Sh) (k : Int) (t : Tok) (h1 : 1 ≤ S.digits) (h2 : S.digits ≤ 18) (hs : S.size = Us.size .binary S.digits) (hk1 : k < 10 ^ S.digits.toNat) (hk2 : -k < 10 ^ S.digits.toNat) (hk3 : S.signed = true ∨ 0 ≤ k) :
    Does w mean mg mb 263 2 [.ref x, .bytes (byteArr (figsB 256 (k % 256 ^ S.size.toNat) S.size.toNat)) t] [(x, instObj 133 dx), (dx, dictOf (shapeEs w T (Str.ofString "binary") S) 11)] (fun nw v => nw = [] ∧ ∃ t', v = .int k t') := by
  have hsz : 1 ≤ S.size ∧ S.size ≤ 20 := by rw [hs, Us.size]; split; omega; split <;> omega
  refine (binary_units_does x dx T S _ t hsz.1 hsz.2 (by rw [figsB_length]; omega) (fun z hz => figsB_in (by decide) z hz)).mono ?_
  rintro nw v ⟨rfl, t', rfl⟩
  refine ⟨rfl, t', congrArg (Value.int · _) ?_⟩
  have := bin_bound h1 h2
  rw [← hs] at this
  exact bin_back this (by omega) hk1 hk2 hk3
end
end
section
theorem kw_32_in : True := by
  k_with_none
  k_with "MyEnter" => (refine wpAny_call ?_; k_dflt (refine' code_defG ?k1 ?k2 ?k3 ?k4 ?k5 ?kA ?kF ?kK ?k6 ?k7 ?k8 ?k9 ?kB ?_ ?c2 ?c3 ?c4 ?c5; (case kA => exact rfl); (case kF => exact rfl); (case kK => assumption); (case k1 => k_asm); (case k2 => k_asm); (case k3 => k_asm); (case k4 => k_asm); (case k5 => k_asm); (case k6 => k_is); (case k7 => k_is); (case k8 => ktr_room); (case k9 => first | exact BindsTo.of_eq rfl | exact binds_K (by k_in) rfl (by k_is) rfl rfl rfl); (case c5 => decide); (case kB => exact locs rfl); (case c2 => exact rfl); (case c3 => exact rfl); (case c4 => exact rfl); k_whole; intro g' L' h' FG' F' N' B' X' T' kG'; (try dsimp only); (try k_lift B'); (try k_fold)))
  k_with "binaryOp FloorDiv int int" => (k_here; (with_reducible refine floordiv_int ?d0 ?_ (Or.inl ?d1)); (case d0 => first | with_reducible assumption | decide | omega); (case d1 => first | with_reducible assumption | exact PyProof.noPylong_of_log2 (by decide +kernel)))
  k_with "MyKEnter" => ((fail_if_success k_inElt); (refine' code_defC ?k1 ?k2 ?k3 ?k4 ?k5 ?kA ?kF ?kK ?k6 ?k7 ?k8 ?k9 ?kB ?kD ?_ ?c2 ?c3 ?c4; (case kA => exact rfl); (case kF => exact rfl); (case kK => exact rfl); (case k1 => k_asm); (case k2 => k_asm); (case k3 => k_asm); (case k4 => k_asm); (case k5 => k_asm); (case k6 => k_is); (case k7 => k_is); (case k8 => ktr_room); (case k9 => first | exact BindsTo.of_eq rfl | exact binds_K (by k_in) rfl (by k_is) rfl rfl rfl | fail "k_enter: no rule for these arguments"); (case kB => exact rfl); (case kD => decide +kernel); (case c2 => exact rfl); (case c3 => exact rfl); (case c4 => exact rfl); k_whole; intro g' L' h' tk' cells' FG' F' N' Y' B' X' T' l1; (try k_lt l1); k_cells Y'; (try simp only [List.cons_append, List.nil_append] at N'); (try dsimp only); (try k_lift B'); (try k_fold)))
  k_with "MyKEnter" => ((fail_if_success k_inElt); (refine' code_def ?k1 ?k2 ?k3 ?k4 ?k5 ?kA ?kF ?kK ?k6 ?k7 ?k8 ?k9 ?kB ?_ ?c2 ?c3 ?c4 ?c5; (case kA => exact rfl); (case kF => exact rfl); (case kK => exact rfl); (case k1 => k_asm); (case k2 => k_asm); (case k3 => k_asm); (case k4 => k_asm); (case k5 => k_asm); (case k6 => k_is); (case k7 => k_is); (case k8 => ktr_room); (case k9 => first | exact BindsTo.of_eq rfl | exact binds_K (by k_in) rfl (by k_is) rfl rfl rfl | fail "k_enter: no rule for these arguments"); (case c5 => decide); (case kB => exact locs rfl); (case c2 => exact rfl); (case c3 => exact rfl); (case c4 => exact rfl); k_whole; intro g' L' h' FG' F' N' B' X' T'; (try dsimp only); (try k_lift B'); (try k_fold)))
  k_with "MyPre" => first | with_reducible assumption | omega | with_reducible decide | fail "MyPre"
  k_with "execs cons" => ((fail_if_success k_inElt); first | (with_reducible refine consQ (by with_reducible assumption) (fun Q9 hQ9 => ?_)) | (with_reducible refine consQQ (fun Q8 hQ8 Q9 hQ9 => ?_)))
  k_with "execs cons" => (k_made; walk_at "execs cons")
  k_with "execs cons" => ((with_reducible show wpAny _ _ _ _ _ (Shared.mk _ _ _ (@HAdd.hAdd Nat Nat Nat _ _ _) _)); refine stGen s rfl rfl rfl (fun tk9 => ?_); (try dsimp only))
  k_with "MyQ" => ((fail_if_success (with_reducible show wpAny _ _ _ _ _ _)); (with_reducible first | refine qNext (by with_reducible assumption) ?_ | refine qRet (by with_reducible assumption) ?_ | refine qBrk (by with_reducible assumption) ?_ | refine qCont (by with_reducible assumption) ?_ | refine qGen (by with_reducible assumption) ?_); (try dsimp only))
  k_with "MyAll" => first | k_extra "MyQ" | (k_unfold; (try dsimp only)) | (k_end; kc_close) | walk1 | (dsimp only; walk1) | (leave1; walk_say "STEP leave1"; (try dsimp only)) | fail "no step"
  k_with "eval Name" => (k_here; (with_reducible show wpAny _ _ (eval (Expr.Name _ _) (envOf _ _ _ _ _)) _ _ _); k_dflt (refine' ld ?k1 ?k2 ?_ rfl (by kernel_rfl!) (by kernel_rfl!); (case k1 => k_asm); (case k2 => exact rfl); k_whole))
  k_with "MySize" => ((with_reducible show List.length (List.nil) ≤ _); exact Nat.zero_le _)
  k_with "MyKSub" => (intro p77 hp77; (repeat (first | with_reducible exact hp77 | with_reducible refine List.mem_cons_of_mem _ ?_)); done)
  trivial
theorem kw_32_in_a : True := by
  k_with "call ref" => (k_dflt (k_here; (with_reducible show wpAny _ _ (call (Value.ref 249) _) _ _ _); (fail_if_success k_inElt); k_dflt (refine' Does.use ?k1 ?k2 ?k3 ?k4 ?k5 ?kK (display_units_does _ _ _ _ _ _ ?p0 ?p1 ?p2 ?p3 ?p4 ?p5) ?kS ?kd ?ku ?_; (case k1 => k_asm); (case k2 => k_asm); (case k3 => k_asm); (case k4 => k_asm); (case k5 => k_asm); (case kK => first | exact rfl | assumption); (case kS => (repeat' (first | exact List.forall_mem_nil _ | (refine List.forall_mem_cons.mpr ⟨?_, ?_⟩) | k_mem | (intro p9 hp9; repeat' (first | exact hp9 | exact List.mem_append_left _ hp9 | exact List.mem_append_right _ hp9 | refine List.Mem.tail _ ?_ | refine List.mem_append_right _ ?_))))); (case kd => ktr_room); (case ku => ktr_units); (case p0 => walk_at "MyPre"); (case p1 => walk_at "MyPre"); (case p2 => walk_at "MyPre"); (case p3 => walk_at "MyPre"); (case p4 => walk_at "MyPre"); (case p5 => walk_at "MyPre"); k_whole); (intro v9 h9 tk9 nw9 E9 F9 N9 hp9; (obtain ⟨hn9, t9, hv9⟩ := hp9; subst hn9; subst hv9); (try simp only [List.nil_append, List.cons_append] at N9); (try dsimp only); (try k_sweep); (try clear E9))))
  k_with "call ref" => (k_dflt (k_here; (with_reducible show wpAny _ _ (call (Value.ref 256) _) _ _ _); (fail_if_success k_inElt); k_dflt (refine' Does.use ?k1 ?k2 ?k3 ?k4 ?k5 ?kK (packed_units_does _ _ _ _ _ _ ?p0 ?p1 ?p2 ?p3 ?p4 ?p5) ?kS ?kd ?ku ?_; (case k1 => k_asm); (case k2 => k_asm); (case k3 => k_asm); (case k4 => k_asm); (case k5 => k_asm); (case kK => first | exact rfl | assumption); (case kS => (repeat' (first | exact List.forall_mem_nil _ | (refine List.forall_mem_cons.mpr ⟨?_, ?_⟩) | k_mem | (intro p9 hp9; repeat' (first | exact hp9 | exact List.mem_append_left _ hp9 | exact List.mem_append_right _ hp9 | refine List.Mem.tail _ ?_ | refine List.mem_append_right _ ?_))))); (case kd => ktr_room); (case ku => ktr_units); (case p0 => walk_at "MyPre"); (case p1 => walk_at "MyPre"); (case p2 => walk_at "MyPre"); (case p3 => walk_at "MyPre"); (case p4 => walk_at "MyPre"); (case p5 => walk_at "MyPre"); k_whole); (intro v9 h9 tk9 nw9 E9 F9 N9 hp9; (obtain ⟨hn9, t9, hv9⟩ := hp9; subst hn9; subst hv9); (try simp only [List.nil_append, List.cons_append] at N9); (try dsimp only); (try k_sweep); (try clear E9))))
  k_with "call ref" => (k_dflt (k_here; (with_reducible show wpAny _ _ (call (Value.ref 263) _) _ _ _); (fail_if_success k_inElt); k_dflt (refine' Does.use ?k1 ?k2 ?k3 ?k4 ?k5 ?kK (binary_back_does _ _ _ _ _ _ ?p0 ?p1 ?p2 ?p3 ?p4 ?p5) ?kS ?kd ?ku ?_; (case k1 => k_asm); (case k2 => k_asm); (case k3 => k_asm); (case k4 => k_asm); (case k5 => k_asm); (case kK => first | exact rfl | assumption); (case kS => (repeat' (first | exact List.forall_mem_nil _ | (refine List.forall_mem_cons.mpr ⟨?_, ?_⟩) | k_mem | (intro p9 hp9; repeat' (first | exact hp9 | exact List.mem_append_left _ hp9 | exact List.mem_append_right _ hp9 | refine List.Mem.tail _ ?_ | refine List.mem_append_right _ ?_))))); (case kd => ktr_room); (case ku => ktr_units); (case p0 => walk_at "MyPre"); (case p1 => walk_at "MyPre"); (case p2 => walk_at "MyPre"); (case p3 => walk_at "MyPre"); (case p4 => walk_at "MyPre"); (case p5 => walk_at "MyPre"); k_whole); (intro v9 h9 tk9 nw9 E9 F9 N9 hp9; (obtain ⟨hn9, t9, hv9⟩ := hp9; subst hn9; subst hv9); (try simp only [List.nil_append, List.cons_append] at N9); (try dsimp only); (try k_sweep); (try clear E9))))
  trivial
section
variable {w : World} {mean : ExcName → Option Value} {mg mb : Str → Option Value}
theorem in_display_does (x dx : Addr) (T : ShT) (S : Sh) (k : Int) (t : Tok) (h1 : 1 ≤ S.digits) (h2 : S.digits ≤ 18) (hs : S.size = S.digits) (hk1 : k < 10 ^ S.digits.toNat) (hk2 : -k < 10 ^ S.digits.toNat) (hk3 : S.signed = true ∨ 0 ≤ k)
    (hI : KBa.In (dispOf S.digits.toNat S.signed k)) (hl : ((dispOf S.digits.toNat S.signed k).length : Int) = S.size) :
    Does w mean mg mb 270 3 [.ref x, .bytes (byteArr (dispOf S.digits.toNat S.signed k)) t] [(x, instObj 133 dx), (dx, dictOf (shapeEs w T (Str.ofString "display") S) 11)] (fun nw v => nw = [] ∧ ∃ t', v = .int k t') := by
  refine unBox ?_
  simp (zetaDelta := true) (disch := (k_dflt (
    refine inBox ?_
    intro dp un gd cn cs a ccd cl outer A₀ base h₀ L' m s Q E B F X N T hk hd hu hret
    have cE := InElt.start s.heap
    walk_at "MyEnter"
    k_steps
    · exact absurd hl (by assumption)
    exact hret _ _ _ _ (by assumption) (newsTake 0 (by assumption)) ⟨rfl, _, rfl⟩
    ))) only [↓Box.of]
theorem in_packed_does (x dx : Addr) (T : ShT) (S : Sh) (k : Int) (t : Tok) (h1 : 1 ≤ S.digits) (h2 : S.digits ≤ 18) (hs : S.size = S.digits / 2 + 1) (hk1 : k < 10 ^ S.digits.toNat) (hk2 : -k < 10 ^ S.digits.toNat) (hk3 : S.signed = true ∨ 0 ≤ k)
    (hI : KBa.In (packOf S.size.toNat S.signed k)) (hl : ((packOf S.size.toNat S.signed k).length : Int) = S.size) :
    Does w mean mg mb 270 3 [.ref x, .bytes (byteArr (packOf S.size.toNat S.signed k)) t] [(x, instObj 133 dx), (dx, dictOf (shapeEs w T (Str.ofString "packed") S) 11)] (fun nw v => nw = [] ∧ ∃ t', v = .int k t') := by
  refine unBox ?_
  simp (zetaDelta := true) (disch := (k_dflt (
    refine inBox ?_
    intro dp un gd cn cs a ccd cl outer A₀ base h₀ L' m s Q E B F X N T hk hd hu hret
    have cE := InElt.start s.heap
    walk_at "MyEnter"
    k_steps
    · exact absurd hl (by assumption)
    exact hret _ _ _ _ (by assumption) (newsTake 0 (by assumption)) ⟨rfl, _, rfl⟩
    ))) only [↓Box.of]
theorem in_binary_does (x dx : Addr) (T : ShT) (S : Sh) (k : Int) (t : Tok) (h1 : 1 ≤ S.digits) (h2 : S.digits ≤ 18) (hz : S.size ≤ 20) (hs : S.size = Us.size .binary S.digits) (hk1 : k < 10 ^ S.digits.toNat) (hk2 : -k < 10 ^ S.digits.toNat) (hk3 : S.signed = true ∨ 0 ≤ k)
    (hI : KBa.In (figsB 256 (k % 256 ^ S.size.toNat) S.size.toNat)) (hl : ((figsB 256 (k % 256 ^ S.size.toNat) S.size.toNat).length : Int) = S.size) :
    Does w mean mg mb 270 3 [.ref x, .bytes (byteArr (figsB 256 (k % 256 ^ S.size.toNat) S.size.toNat)) t] [(x, instObj 133 dx), (dx, dictOf (shapeEs w T (Str.ofString "binary") S) 11)] (fun nw v => nw = [] ∧ ∃ t', v = .int k t') := by
  refine unBox ?_
  simp (zetaDelta := true) (disch := (k_dflt (
    refine inBox ?_
    intro dp un gd cn cs a ccd cl outer A₀ base h₀ L' m s Q E B F X N T hk hd hu hret
    have cE := InElt.start s.heap
    walk_at "MyEnter"
    k_steps
    · exact absurd hl (by assumption)
    exact hret _ _ _ _ (by assumption) (newsTake 0 (by assumption)) ⟨rfl, _, rfl⟩
    ))) only [↓Box.of]
theorem disp_length {d : Nat} {sg : Bool} {u : Int} : (dispOf d sg u).length = d := by
  rw [dispOf]
  split
  · rw [List.length_set, List.length_map, figs_length]
  · rw [List.length_map, figs_length]
theorem disp_In {d : Nat} {sg : Bool} {u : Int} : KBa.In (dispOf d sg u) := by
  rw [dispOf]
  split
  · exact in_set disp_in u8_in
  · exact fun z hz => by have := disp_in z hz; omega
theorem size_in {U : Us} {d : Int} (h1 : 1 ≤ d) (h2 : d ≤ 18) : 1 ≤ U.size d ∧ U.size d ≤ 20 := by
  cases U <;> (unfold Us.size; dsimp only)
  · omega
  · omega
  · split
    · omega
    · split <;> omega
theorem enc_In {U : Us} {S : Sh} {k : Int} : KBa.In (encOf U S k) := by
  cases U
  · exact packOf_in
  · exact disp_In
  · exact figsB_in (by decide)
theorem enc_length {U : Us} {S : Sh} {k : Int} (h1 : 1 ≤ S.digits) (hs : S.size = U.size S.digits) : ((encOf U S k).length : Int) = S.size := by
  cases U
  · show ((packOf _ _ _).length : Int) = _
    rw [packOf_length, hs, Us.size]; omega
  · show ((dispOf _ _ _).length : Int) = _
    rw [disp_length, hs, Us.size]; omega
  · show ((figsB _ _ _).length : Int) = _
    rw [figsB_length, hs, Us.size]
    split
    · omega
    · split <;> omega
theorem units_in_does (x dx : Addr) (T : ShT) (U : Us) (S : Sh) (k : Int) (t : Tok) (h1 : 1 ≤ S.digits) (h2 : S.digits ≤ 18) (hs : S.size = U.size S.digits) (hk1 : k < 10 ^ S.digits.toNat) (hk2 : -k < 10 ^ S.digits.toNat) (hk3 : S.signed = true ∨ 0 ≤ k) :
    Does w mean mg mb 270 3 [.ref x, .bytes (byteArr (encOf U S k)) t] [(x, instObj 133 dx), (dx, dictOf (shapeEs w T U.str S) 11)] (fun nw v => nw = [] ∧ ∃ t', v = .int k t') := by
  have hI := enc_In (U := U) (S := S) (k := k)
  have hl := enc_length (k := k) h1 hs
  cases U with
  | packed => exact in_packed_does x dx T S k t h1 h2 hs hk1 hk2 hk3 hI hl
  | display => exact in_display_does x dx T S k t h1 h2 hs hk1 hk2 hk3 hI hl
  | binary => exact in_binary_does x dx T S k t h1 h2 (by rw [hs]; exact (size_in h1 h2).2) hs hk1 hk2 hk3 hI hl
end
end
section
theorem kw_33_isnum : True := by
  k_with_none
  k_with "MyEnter" => (refine wpAny_call ?_; k_dflt (refine' code_defG ?k1 ?k2 ?k3 ?k4 ?k5 ?kA ?kF ?kK ?k6 ?k7 ?k8 ?k9 ?kB ?_ ?c2 ?c3 ?c4 ?c5; (case kA => exact rfl); (case kF => exact rfl); (case kK => assumption); (case k1 => k_asm); (case k2 => k_asm); (case k3 => k_asm); (case k4 => k_asm); (case k5 => k_asm); (case k6 => k_is); (case k7 => k_is); (case k8 => ktr_room); (case k9 => first | exact BindsTo.of_eq rfl | exact binds_K (by k_in) rfl (by k_is) rfl rfl rfl); (case c5 => decide); (case kB => exact locs rfl); (case c2 => exact rfl); (case c3 => exact rfl); (case c4 => exact rfl); k_whole; intro g' L' h' FG' F' N' B' X' T' kG'; (try dsimp only); (try k_lift B'); (try k_fold)))
  k_with "binaryOp FloorDiv int int" => (k_here; (with_reducible refine floordiv_int ?d0 ?_ (Or.inl ?d1)); (case d0 => first | with_reducible assumption | decide | omega); (case d1 => first | with_reducible assumption | exact PyProof.noPylong_of_log2 (by decide +kernel)))
  k_with "MyKEnter" => ((fail_if_success k_inElt); (refine' code_defC ?k1 ?k2 ?k3 ?k4 ?k5 ?kA ?kF ?kK ?k6 ?k7 ?k8 ?k9 ?kB ?kD ?_ ?c2 ?c3 ?c4; (case kA => exact rfl); (case kF => exact rfl); (case kK => exact rfl); (case k1 => k_asm); (case k2 => k_asm); (case k3 => k_asm); (case k4 => k_asm); (case k5 => k_asm); (case k6 => k_is); (case k7 => k_is); (case k8 => ktr_room); (case k9 => first | exact BindsTo.of_eq rfl | exact binds_K (by k_in) rfl (by k_is) rfl rfl rfl | fail "k_enter: no rule for these arguments"); (case kB => exact rfl); (case kD => decide +kernel); (case c2 => exact rfl); (case c3 => exact rfl); (case c4 => exact rfl); k_whole; intro g' L' h' tk' cells' FG' F' N' Y' B' X' T' l1; (try k_lt l1); k_cells Y'; (try simp only [List.cons_append, List.nil_append] at N'); (try dsimp only); (try k_lift B'); (try k_fold)))
  k_with "MyKEnter" => ((fail_if_success k_inElt); (refine' code_def ?k1 ?k2 ?k3 ?k4 ?k5 ?kA ?kF ?kK ?k6 ?k7 ?k8 ?k9 ?kB ?_ ?c2 ?c3 ?c4 ?c5; (case kA => exact rfl); (case kF => exact rfl); (case kK => exact rfl); (case k1 => k_asm); (case k2 => k_asm); (case k3 => k_asm); (case k4 => k_asm); (case k5 => k_asm); (case k6 => k_is); (case k7 => k_is); (case k8 => ktr_room); (case k9 => first | exact BindsTo.of_eq rfl | exact binds_K (by k_in) rfl (by k_is) rfl rfl rfl | fail "k_enter: no rule for these arguments"); (case c5 => decide); (case kB => exact locs rfl); (case c2 => exact rfl); (case c3 => exact rfl); (case c4 => exact rfl); k_whole; intro g' L' h' FG' F' N' B' X' T'; (try dsimp only); (try k_lift B'); (try k_fold)))
  k_with "MyPre" => first | with_reducible assumption | omega | with_reducible decide | fail "MyPre"
  k_with "execs cons" => ((fail_if_success k_inElt); first | (with_reducible refine consQ (by with_reducible assumption) (fun Q9 hQ9 => ?_)) | (with_reducible refine consQQ (fun Q8 hQ8 Q9 hQ9 => ?_)))
  k_with "execs cons" => (k_made; walk_at "execs cons")
  k_with "execs cons" => ((with_reducible show wpAny _ _ _ _ _ (Shared.mk _ _ _ (@HAdd.hAdd Nat Nat Nat _ _ _) _)); refine stGen s rfl rfl rfl (fun tk9 => ?_); (try dsimp only))
  k_with "MyQ" => ((fail_if_success (with_reducible show wpAny _ _ _ _ _ _)); (with_reducible first | refine qNext (by with_reducible assumption) ?_ | refine qRet (by with_reducible assumption) ?_ | refine qBrk (by with_reducible assumption) ?_ | refine qCont (by with_reducible assumption) ?_ | refine qGen (by with_reducible assumption) ?_); (try dsimp only))
  k_with "MyAll" => first | k_extra "MyQ" | (k_unfold; (try dsimp only)) | (k_end; kc_close) | walk1 | (dsimp only; walk1) | (leave1; walk_say "STEP leave1"; (try dsimp only)) | fail "no step"
  k_with "eval Name" => (k_here; (with_reducible show wpAny _ _ (eval (Expr.Name _ _) (envOf _ _ _ _ _)) _ _ _); k_dflt (refine' ld ?k1 ?k2 ?_ rfl (by kernel_rfl!) (by kernel_rfl!); (case k1 => k_asm); (case k2 => exact rfl); k_whole))
  k_with "MySize" => ((with_reducible show List.length (List.nil) ≤ _); exact Nat.zero_le _)
  k_with "MyKSub" => (intro p77 hp77; (repeat (first | with_reducible exact hp77 | with_reducible refine List.mem_cons_of_mem _ ?_)); done)
  trivial
theorem kw_33_isnum_a : True := by
  k_with "call ref" => (k_dflt (k_here; (with_reducible show wpAny _ _ (call (Value.ref 270) _) _ _ _); (fail_if_success k_inElt); k_dflt (refine' Does.use ?k1 ?k2 ?k3 ?k4 ?k5 ?kK (units_in_does _ _ _ _ _ _ _ ?p0 ?p1 ?p2 ?p3 ?p4 ?p5) ?kS ?kd ?ku ?_; (case k1 => k_asm); (case k2 => k_asm); (case k3 => k_asm); (case k4 => k_asm); (case k5 => k_asm); (case kK => first | exact rfl | assumption); (case kS => (repeat' (first | exact List.forall_mem_nil _ | (refine List.forall_mem_cons.mpr ⟨?_, ?_⟩) | k_mem | (intro p9 hp9; repeat' (first | exact hp9 | exact List.mem_append_left _ hp9 | exact List.mem_append_right _ hp9 | refine List.Mem.tail _ ?_ | refine List.mem_append_right _ ?_))))); (case kd => ktr_room); (case ku => ktr_units); (case p0 => walk_at "MyPre"); (case p1 => walk_at "MyPre"); (case p2 => walk_at "MyPre"); (case p3 => walk_at "MyPre"); (case p4 => walk_at "MyPre"); (case p5 => walk_at "MyPre"); k_whole); (intro v9 h9 tk9 nw9 E9 F9 N9 hp9; (obtain ⟨hn9, t9, hv9⟩ := hp9; subst hn9; subst hv9); (try simp only [List.nil_append, List.cons_append] at N9); (try dsimp only); (try k_sweep); (try clear E9))))
  trivial
section
variable {w : World} {mean : ExcName → Option Value} {mg mb : Str → Option Value}
theorem is_number_does (x dx : Addr) (T : ShT) (U : Us) (S : Sh) (k : Int) (t : Tok) (h1 : 1 ≤ S.digits) (h2 : S.digits ≤ 18) (hs : S.size = U.size S.digits) (hk1 : k < 10 ^ S.digits.toNat) (hk2 : -k < 10 ^ S.digits.toNat) (hk3 : S.signed = true ∨ 0 ≤ k) :
    Does w mean mg mb 277 4 [.ref x, .bytes (byteArr (encOf U S k)) t] [(x, instObj 133 dx), (dx, dictOf (shapeEs w T U.str S) 11)] (fun nw v => nw = [] ∧ v = .bool true) := by
  refine unBox ?_
  simp (zetaDelta := true) (disch := (k_dflt (
    refine inBox ?_
    intro dp un gd cn cs a ccd cl outer A₀ base h₀ L' m s Q E B F X N T hk hd hu hret
    have cE := InElt.start s.heap
    walk_at "MyEnter"
    k_steps
    exact hret _ _ _ _ (by assumption) (newsTake 0 (by assumption)) ⟨rfl, rfl⟩
    ))) only [↓Box.of]
end
end
section
theorem kw_34_dec : True := by
  k_with_none
  k_with "MyEnter" => (refine wpAny_call ?_; k_dflt (refine' code_defG ?k1 ?k2 ?k3 ?k4 ?k5 ?kA ?kF ?kK ?k6 ?k7 ?k8 ?k9 ?kB ?_ ?c2 ?c3 ?c4 ?c5; (case kA => exact rfl); (case kF => exact rfl); (case kK => assumption); (case k1 => k_asm); (case k2 => k_asm); (case k3 => k_asm); (case k4 => k_asm); (case k5 => k_asm); (case k6 => k_is); (case k7 => k_is); (case k8 => ktr_room); (case k9 => first | exact BindsTo.of_eq rfl | exact binds_K (by k_in) rfl (by k_is) rfl rfl rfl); (case c5 => decide); (case kB => exact locs rfl); (case c2 => exact rfl); (case c3 => exact rfl); (case c4 => exact rfl); k_whole; intro g' L' h' FG' F' N' B' X' T' kG'; (try dsimp only); (try k_lift B'); (try k_fold)))
  k_with "binaryOp FloorDiv int int" => (k_here; (with_reducible refine floordiv_int ?d0 ?_ (Or.inl ?d1)); (case d0 => first | with_reducible assumption | decide | omega); (case d1 => first | with_reducible assumption | exact PyProof.noPylong_of_log2 (by decide +kernel)))
  k_with "MyKEnter" => ((fail_if_success k_inElt); (refine' code_defC ?k1 ?k2 ?k3 ?k4 ?k5 ?kA ?kF ?kK ?k6 ?k7 ?k8 ?k9 ?kB ?kD ?_ ?c2 ?c3 ?c4; (case kA => exact rfl); (case kF => exact rfl); (case kK => exact rfl); (case k1 => k_asm); (case k2 => k_asm); (case k3 => k_asm); (case k4 => k_asm); (case k5 => k_asm); (case k6 => k_is); (case k7 => k_is); (case k8 => ktr_room); (case k9 => first | exact BindsTo.of_eq rfl | exact binds_K (by k_in) rfl (by k_is) rfl rfl rfl | fail "k_enter: no rule for these arguments"); (case kB => exact rfl); (case kD => decide +kernel); (case c2 => exact rfl); (case c3 => exact rfl); (case c4 => exact rfl); k_whole; intro g' L' h' tk' cells' FG' F' N' Y' B' X' T' l1; (try k_lt l1); k_cells Y'; (try simp only [List.cons_append, List.nil_append] at N'); (try dsimp only); (try k_lift B'); (try k_fold)))
  k_with "MyKEnter" => ((fail_if_success k_inElt); (refine' code_def ?k1 ?k2 ?k3 ?k4 ?k5 ?kA ?kF ?kK ?k6 ?k7 ?k8 ?k9 ?kB ?_ ?c2 ?c3 ?c4 ?c5; (case kA => exact rfl); (case kF => exact rfl); (case kK => exact rfl); (case k1 => k_asm); (case k2 => k_asm); (case k3 => k_asm); (case k4 => k_asm); (case k5 => k_asm); (case k6 => k_is); (case k7 => k_is); (case k8 => ktr_room); (case k9 => first | exact BindsTo.of_eq rfl | exact binds_K (by k_in) rfl (by k_is) rfl rfl rfl | fail "k_enter: no rule for these arguments"); (case c5 => decide); (case kB => exact locs rfl); (case c2 => exact rfl); (case c3 => exact rfl); (case c4 => exact rfl); k_whole; intro g' L' h' FG' F' N' B' X' T'; (try dsimp only); (try k_lift B'); (try k_fold)))
  k_with "MyPre" => first | with_reducible assumption | omega | with_reducible decide | fail "MyPre"
  k_with "execs cons" => ((fail_if_success k_inElt); first | (with_reducible refine consQ (by with_reducible assumption) (fun Q9 hQ9 => ?_)) | (with_reducible refine consQQ (fun Q8 hQ8 Q9 hQ9 => ?_)))
  k_with "execs cons" => (k_made; walk_at "execs cons")
  k_with "execs cons" => ((with_reducible show wpAny _ _ _ _ _ (Shared.mk _ _ _ (@HAdd.hAdd Nat Nat Nat _ _ _) _)); refine stGen s rfl rfl rfl (fun tk9 => ?_); (try dsimp only))
  k_with "MyQ" => ((fail_if_success (with_reducible show wpAny _ _ _ _ _ _)); (with_reducible first | refine qNext (by with_reducible assumption) ?_ | refine qRet (by with_reducible assumption) ?_ | refine qBrk (by with_reducible assumption) ?_ | refine qCont (by with_reducible assumption) ?_ | refine qGen (by with_reducible assumption) ?_); (try dsimp only))
  k_with "MyAll" => first | k_extra "MyQ" | (k_unfold; (try dsimp only)) | (k_end; kc_close) | walk1 | (dsimp only; walk1) | (leave1; walk_say "STEP leave1"; (try dsimp only)) | fail "no step"
  k_with "eval Name" => (k_here; (with_reducible show wpAny _ _ (eval (Expr.Name _ _) (envOf _ _ _ _ _)) _ _ _); k_dflt (refine' ld ?k1 ?k2 ?_ rfl (by kernel_rfl!) (by kernel_rfl!); (case k1 => k_asm); (case k2 => exact rfl); k_whole))
  k_with "MySize" => ((with_reducible show List.length (List.nil) ≤ _); exact Nat.zero_le _)
  k_with "MyKSub" => (intro p77 hp77; (repeat (first | with_reducible exact hp77 | with_reducible refine List.mem_cons_of_mem _ ?_)); done)
  trivial
/-- without the noughts behind the point -/
noncomputable def strip : Int → Nat → Int × Int
  | u, 0 => (u, 0)
  | u, n + 1 => if u % 10 = 0 then strip (u / 10) n else (u, ((n + 1 : Nat) : Int))
noncomputable def decOf (u sc : Int) : Int × Int := if sc < 0 then (u * 10 ^ (-sc).toNat, 0) else strip u sc.toNat
noncomputable def DecI (u₀ s₀ u s : Int) : Prop := 0 ≤ s ∧ strip u s.toNat = strip u₀ s₀.toNat
theorem DecI.start {u s : Int} (h : ¬ s < 0) : DecI u s u s := ⟨by omega, rfl⟩
theorem DecI.turn {u₀ s₀ u s : Int} (h : DecI u₀ s₀ u s) (h1 : 0 < s) (h2 : u.fmod 10 = 0) : DecI u₀ s₀ (u.fdiv 10) (s - 1) := by
  obtain ⟨n, rfl⟩ : ∃ n : Nat, s = ((n + 1 : Nat) : Int) := ⟨s.toNat - 1, by omega⟩
  refine ⟨by omega, ?_⟩
  rw [Int.fdiv_eq_ediv_of_nonneg _ (by decide), ← h.2]
  rw [Int.fmod_eq_emod_of_nonneg _ (by decide)] at h2
  rw [show (((n + 1 : Nat) : Int) - 1).toNat = n by omega, show (((n + 1 : Nat) : Int)).toNat = n + 1 by omega, strip, if_pos h2]
theorem DecI.done1 {u₀ s₀ u s : Int} (hs : ¬ s₀ < 0) (h : DecI u₀ s₀ u s) (h1 : ¬ 0 < s) : (u, s) = decOf u₀ s₀ := by
  have e : s = 0 := by have := h.1; omega
  subst e
  rw [decOf, if_neg hs, ← h.2]; rfl
theorem DecI.done2 {u₀ s₀ u s : Int} (hs : ¬ s₀ < 0) (h : DecI u₀ s₀ u s) (h1 : 0 < s) (h2 : ¬ u.fmod 10 = 0) : (u, s) = decOf u₀ s₀ := by
  obtain ⟨n, rfl⟩ : ∃ n : Nat, s = ((n + 1 : Nat) : Int) := ⟨s.toNat - 1, by omega⟩
  rw [Int.fmod_eq_emod_of_nonneg _ (by decide)] at h2
  rw [decOf, if_neg hs, ← h.2, show (((n + 1 : Nat) : Int)).toNat = n + 1 by omega, strip, if_neg h2]
theorem decOf_neg {u sc : Int} (h : sc < 0) : (u * 10 ^ (-sc).toNat, 0) = decOf u sc := (if_pos h).symm
theorem decFin {a b : Int} {p : Int × Int} (e : (a, b) = p) {r : Addr} {t1 t2 : Tok} {l : List (Addr × Obj)} (h : l = [(r, tupOf [.int a t1, .int b t2] 0)]) : ∃ r' t1 t2, l = [(r', tupOf [.int p.1 t1, .int p.2 t2] 0)] ∧ Value.ref r = .ref r' :=
  ⟨r, t1, t2, by rw [← e]; exact h, rfl⟩
section
variable {w : World} {mean : ExcName → Option Value} {mg mb : Str → Option Value}
theorem decimal_does (u sc : Int) (t tt : Tok) (hu0 : u.natAbs < 10 ^ 30) (h1 : -5 ≤ sc) (h2 : sc ≤ 20) :
    Does w mean mg mb 29 1 [.int u t, .int sc tt] [] (fun nw v => ∃ r t1 t2, nw = [(r, tupOf [.int (decOf u sc).1 t1, .int (decOf u sc).2 t2] 0)] ∧ v = .ref r) := by
  refine unBox ?_
  simp (zetaDelta := true) (disch := (k_dflt (
    refine inBox ?_
    have hm : IntMulOk u (10 ^ (-sc).toNat) := IntMulOk.of_bits (bitsOk (Nat.lt_trans hu0 (by decide))) (bitsOk (by
      have h : (10 : Nat) ^ (-sc).toNat ≤ 10 ^ 20 := Nat.pow_le_pow_right (by decide) (by omega)
      rw [Int.natAbs_pow]
      exact Nat.lt_of_le_of_lt h (by decide)))
    intro dp un gd cn cs a ccd cl outer A₀ base h₀ L' m s Q E B F X N T hk hd hu hret
    have cE := InElt.start s.heap
    walk_at "MyEnter"
    k_with "exec While BoolOp cons nil" => k_while (fun _ units scale => DecI u sc units scale) (fun _ units scale => scale.toNat) "units" "scale"
    k_with "state" => first | exact DecI.start (by assumption) | exact DecI.turn (by assumption) (by assumption) (by assumption)
    k_steps
    · refine hret _ _ _ _ (by assumption) (newsTake 1 (by assumption)) ?_
      exact decFin (decOf_neg (by assumption)) rfl
    · refine hret _ _ _ _ (by assumption) (newsTake 1 (by assumption)) ?_
      exact decFin (DecI.done2 (by assumption) (by assumption) (by assumption) (by assumption)) rfl
    · refine hret _ _ _ _ (by assumption) (newsTake 1 (by assumption)) ?_
      exact decFin (DecI.done1 (by assumption) (by assumption) (by assumption)) rfl
    ))) only [↓Box.of]
end
end
section
theorem kw_35_num : True := by
  k_with_none
  k_with "MyEnter" => (refine wpAny_call ?_; k_dflt (refine' code_defG ?k1 ?k2 ?k3 ?k4 ?k5 ?kA ?kF ?kK ?k6 ?k7 ?k8 ?k9 ?kB ?_ ?c2 ?c3 ?c4 ?c5; (case kA => exact rfl); (case kF => exact rfl); (case kK => assumption); (case k1 => k_asm); (case k2 => k_asm); (case k3 => k_asm); (case k4 => k_asm); (case k5 => k_asm); (case k6 => k_is); (case k7 => k_is); (case k8 => ktr_room); (case k9 => first | exact BindsTo.of_eq rfl | exact binds_K (by k_in) rfl (by k_is) rfl rfl rfl); (case c5 => decide); (case kB => exact locs rfl); (case c2 => exact rfl); (case c3 => exact rfl); (case c4 => exact rfl); k_whole; intro g' L' h' FG' F' N' B' X' T' kG'; (try dsimp only); (try k_lift B'); (try k_fold)))
  k_with "binaryOp FloorDiv int int" => (k_here; (with_reducible refine floordiv_int ?d0 ?_ (Or.inl ?d1)); (case d0 => first | with_reducible assumption | decide | omega); (case d1 => first | with_reducible assumption | exact PyProof.noPylong_of_log2 (by decide +kernel)))
  k_with "MyKEnter" => ((fail_if_success k_inElt); (refine' code_defC ?k1 ?k2 ?k3 ?k4 ?k5 ?kA ?kF ?kK ?k6 ?k7 ?k8 ?k9 ?kB ?kD ?_ ?c2 ?c3 ?c4; (case kA => exact rfl); (case kF => exact rfl); (case kK => exact rfl); (case k1 => k_asm); (case k2 => k_asm); (case k3 => k_asm); (case k4 => k_asm); (case k5 => k_asm); (case k6 => k_is); (case k7 => k_is); (case k8 => ktr_room); (case k9 => first | exact BindsTo.of_eq rfl | exact binds_K (by k_in) rfl (by k_is) rfl rfl rfl | fail "k_enter: no rule for these arguments"); (case kB => exact rfl); (case kD => decide +kernel); (case c2 => exact rfl); (case c3 => exact rfl); (case c4 => exact rfl); k_whole; intro g' L' h' tk' cells' FG' F' N' Y' B' X' T' l1; (try k_lt l1); k_cells Y'; (try simp only [List.cons_append, List.nil_append] at N'); (try dsimp only); (try k_lift B'); (try k_fold)))
  k_with "MyKEnter" => ((fail_if_success k_inElt); (refine' code_def ?k1 ?k2 ?k3 ?k4 ?k5 ?kA ?kF ?kK ?k6 ?k7 ?k8 ?k9 ?kB ?_ ?c2 ?c3 ?c4 ?c5; (case kA => exact rfl); (case kF => exact rfl); (case kK => exact rfl); (case k1 => k_asm); (case k2 => k_asm); (case k3 => k_asm); (case k4 => k_asm); (case k5 => k_asm); (case k6 => k_is); (case k7 => k_is); (case k8 => ktr_room); (case k9 => first | exact BindsTo.of_eq rfl | exact binds_K (by k_in) rfl (by k_is) rfl rfl rfl | fail "k_enter: no rule for these arguments"); (case c5 => decide); (case kB => exact locs rfl); (case c2 => exact rfl); (case c3 => exact rfl); (case c4 => exact rfl); k_whole; intro g' L' h' FG' F' N' B' X' T'; (try dsimp only); (try k_lift B'); (try k_fold)))
  k_with "MyPre" => first | with_reducible assumption | omega | with_reducible decide | fail "MyPre"
  k_with "execs cons" => ((fail_if_success k_inElt); first | (with_reducible refine consQ (by with_reducible assumption) (fun Q9 hQ9 => ?_)) | (with_reducible refine consQQ (fun Q8 hQ8 Q9 hQ9 => ?_)))
  k_with "execs cons" => (k_made; walk_at "execs cons")
  k_with "execs cons" => ((with_reducible show wpAny _ _ _ _ _ (Shared.mk _ _ _ (@HAdd.hAdd Nat Nat Nat _ _ _) _)); refine stGen s rfl rfl rfl (fun tk9 => ?_); (try dsimp only))
  k_with "MyQ" => ((fail_if_success (with_reducible show wpAny _ _ _ _ _ _)); (with_reducible first | refine qNext (by with_reducible assumption) ?_ | refine qRet (by with_reducible assumption) ?_ | refine qBrk (by with_reducible assumption) ?_ | refine qCont (by with_reducible assumption) ?_ | refine qGen (by with_reducible assumption) ?_); (try dsimp only))
  k_with "MyAll" => first | k_extra "MyQ" | (k_unfold; (try dsimp only)) | (k_end; kc_close) | walk1 | (dsimp only; walk1) | (leave1; walk_say "STEP leave1"; (try dsimp only)) | fail "no step"
  k_with "eval Name" => (k_here; (with_reducible show wpAny _ _ (eval (Expr.Name _ _) (envOf _ _ _ _ _)) _ _ _); k_dflt (refine' ld ?k1 ?k2 ?_ rfl (by kernel_rfl!) (by kernel_rfl!); (case k1 => k_asm); (case k2 => exact rfl); k_whole))
  k_with "MySize" => ((with_reducible show List.length (List.nil) ≤ _); exact Nat.zero_le _)
  k_with "MyKSub" => (intro p77 hp77; (repeat (first | with_reducible exact hp77 | with_reducible refine List.mem_cons_of_mem _ ?_)); done)
  trivial
theorem kw_35_num_a : True := by
  k_with "call ref" => (k_dflt (k_here; (with_reducible show wpAny _ _ (call (Value.ref 270) _) _ _ _); (fail_if_success k_inElt); k_dflt (refine' Does.use ?k1 ?k2 ?k3 ?k4 ?k5 ?kK (units_in_does _ _ _ _ _ _ _ ?p0 ?p1 ?p2 ?p3 ?p4 ?p5) ?kS ?kd ?ku ?_; (case k1 => k_asm); (case k2 => k_asm); (case k3 => k_asm); (case k4 => k_asm); (case k5 => k_asm); (case kK => first | exact rfl | assumption); (case kS => (repeat' (first | exact List.forall_mem_nil _ | (refine List.forall_mem_cons.mpr ⟨?_, ?_⟩) | k_mem | (intro p9 hp9; repeat' (first | exact hp9 | exact List.mem_append_left _ hp9 | exact List.mem_append_right _ hp9 | refine List.Mem.tail _ ?_ | refine List.mem_append_right _ ?_))))); (case kd => ktr_room); (case ku => ktr_units); (case p0 => walk_at "MyPre"); (case p1 => walk_at "MyPre"); (case p2 => walk_at "MyPre"); (case p3 => walk_at "MyPre"); (case p4 => walk_at "MyPre"); (case p5 => walk_at "MyPre"); k_whole); (intro v9 h9 tk9 nw9 E9 F9 N9 hp9; (obtain ⟨hn9, t9, hv9⟩ := hp9; subst hn9; subst hv9); (try simp only [List.nil_append, List.cons_append] at N9); (try dsimp only); (try k_sweep); (try clear E9))))
  k_with "call ref" => (k_dflt (k_here; (with_reducible show wpAny _ _ (call (Value.ref 29) _) _ _ _); (fail_if_success k_inElt); k_dflt (refine' Does.use ?k1 ?k2 ?k3 ?k4 ?k5 ?kK (decimal_does _ _ _ _ ?p0 ?p1 ?p2) ?kS ?kd ?ku ?_; (case k1 => k_asm); (case k2 => k_asm); (case k3 => k_asm); (case k4 => k_asm); (case k5 => k_asm); (case kK => first | exact rfl | assumption); (case kS => (repeat' (first | exact List.forall_mem_nil _ | (refine List.forall_mem_cons.mpr ⟨?_, ?_⟩) | k_mem | (intro p9 hp9; repeat' (first | exact hp9 | exact List.mem_append_left _ hp9 | exact List.mem_append_right _ hp9 | refine List.Mem.tail _ ?_ | refine List.mem_append_right _ ?_))))); (case kd => ktr_room); (case ku => ktr_units); (case p0 => walk_at "MyPre"); (case p1 => walk_at "MyPre"); (case p2 => walk_at "MyPre"); k_whole); (intro v9 h9 tk9 nw9 E9 F9 N9 hp9; (obtain ⟨r9, t9, u9, hn9, hv9⟩ := hp9; subst hn9; subst hv9); (try simp only [List.nil_append, List.cons_append] at N9); (try dsimp only); (try k_sweep); (try clear E9))))
  trivial
theorem pow18 {d k : Int} (h2 : d ≤ 18) (hk1 : k < 10 ^ d.toNat) (hk2 : -k < 10 ^ d.toNat) : k.natAbs < 10 ^ 30 := by
  have := pow_le (z := d) (n := 18) (by omega)
  have e : (10 : Int) ^ 18 = 1000000000000000000 := by decide
  rw [e] at this
  omega
section
variable {w : World} {mean : ExcName → Option Value} {mg mb : Str → Option Value}
theorem number_in_does (x dx : Addr) (T : ShT) (U : Us) (S : Sh) (k : Int) (t : Tok) (h1 : 1 ≤ S.digits) (h2 : S.digits ≤ 18) (h3 : -5 ≤ S.scale) (h4 : S.scale ≤ 20) (hs : S.size = U.size S.digits) (hk1 : k < 10 ^ S.digits.toNat) (hk2 : -k < 10 ^ S.digits.toNat) (hk3 : S.signed = true ∨ 0 ≤ k) :
    Does w mean mg mb 284 4 [.ref x, .bytes (byteArr (encOf U S k)) t] [(x, instObj 133 dx), (dx, dictOf (shapeEs w T U.str S) 11)] (fun nw v => ∃ r t1 t2, nw = [(r, tupOf [.int (decOf k S.scale).1 t1, .int (decOf k S.scale).2 t2] 0)] ∧ v = .ref r) := by
  refine unBox ?_
  simp (zetaDelta := true) (disch := (k_dflt (
    refine inBox ?_
    have h9 := pow18 h2 hk1 hk2
    intro dp un gd cn cs a ccd cl outer A₀ base h₀ L' m s Q E B F X N T hk hd hu hret
    have cE := InElt.start s.heap
    walk_at "MyEnter"
    k_steps
    exact hret _ _ _ _ (by assumption) (newsTake 1 (by assumption)) ⟨_, _, _, rfl, rfl⟩
    ))) only [↓Box.of]
end
end
section
theorem kw_40_left : True := by
  k_with_none
  k_with "MyEnter" => (refine wpAny_call ?_; k_dflt (refine' code_defG ?k1 ?k2 ?k3 ?k4 ?k5 ?kA ?kF ?kK ?k6 ?k7 ?k8 ?k9 ?kB ?_ ?c2 ?c3 ?c4 ?c5; (case kA => exact rfl); (case kF => exact rfl); (case kK => assumption); (case k1 => k_asm); (case k2 => k_asm); (case k3 => k_asm); (case k4 => k_asm); (case k5 => k_asm); (case k6 => k_is); (case k7 => k_is); (case k8 => ktr_room); (case k9 => first | exact BindsTo.of_eq rfl | exact binds_K (by k_in) rfl (by k_is) rfl rfl rfl); (case c5 => decide); (case kB => exact locs rfl); (case c2 => exact rfl); (case c3 => exact rfl); (case c4 => exact rfl); k_whole; intro g' L' h' FG' F' N' B' X' T' kG'; (try dsimp only); (try k_lift B'); (try k_fold)))
  k_with "binaryOp FloorDiv int int" => (k_here; (with_reducible refine floordiv_int ?d0 ?_ (Or.inl ?d1)); (case d0 => first | with_reducible assumption | decide | omega); (case d1 => first | with_reducible assumption | exact PyProof.noPylong_of_log2 (by decide +kernel)))
  k_with "MyKEnter" => ((fail_if_success k_inElt); (refine' code_defC ?k1 ?k2 ?k3 ?k4 ?k5 ?kA ?kF ?kK ?k6 ?k7 ?k8 ?k9 ?kB ?kD ?_ ?c2 ?c3 ?c4; (case kA => exact rfl); (case kF => exact rfl); (case kK => exact rfl); (case k1 => k_asm); (case k2 => k_asm); (case k3 => k_asm); (case k4 => k_asm); (case k5 => k_asm); (case k6 => k_is); (case k7 => k_is); (case k8 => ktr_room); (case k9 => first | exact BindsTo.of_eq rfl | exact binds_K (by k_in) rfl (by k_is) rfl rfl rfl | fail "k_enter: no rule for these arguments"); (case kB => exact rfl); (case kD => decide +kernel); (case c2 => exact rfl); (case c3 => exact rfl); (case c4 => exact rfl); k_whole; intro g' L' h' tk' cells' FG' F' N' Y' B' X' T' l1; (try k_lt l1); k_cells Y'; (try simp only [List.cons_append, List.nil_append] at N'); (try dsimp only); (try k_lift B'); (try k_fold)))
  k_with "MyKEnter" => ((fail_if_success k_inElt); (refine' code_def ?k1 ?k2 ?k3 ?k4 ?k5 ?kA ?kF ?kK ?k6 ?k7 ?k8 ?k9 ?kB ?_ ?c2 ?c3 ?c4 ?c5; (case kA => exact rfl); (case kF => exact rfl); (case kK => exact rfl); (case k1 => k_asm); (case k2 => k_asm); (case k3 => k_asm); (case k4 => k_asm); (case k5 => k_asm); (case k6 => k_is); (case k7 => k_is); (case k8 => ktr_room); (case k9 => first | exact BindsTo.of_eq rfl | exact binds_K (by k_in) rfl (by k_is) rfl rfl rfl | fail "k_enter: no rule for these arguments"); (case c5 => decide); (case kB => exact locs rfl); (case c2 => exact rfl); (case c3 => exact rfl); (case c4 => exact rfl); k_whole; intro g' L' h' FG' F' N' B' X' T'; (try dsimp only); (try k_lift B'); (try k_fold)))
  k_with "MyPre" => first | with_reducible assumption | omega | with_reducible decide | fail "MyPre"
  k_with "execs cons" => ((fail_if_success k_inElt); first | (with_reducible refine consQ (by with_reducible assumption) (fun Q9 hQ9 => ?_)) | (with_reducible refine consQQ (fun Q8 hQ8 Q9 hQ9 => ?_)))
  k_with "execs cons" => (k_made; walk_at "execs cons")
  k_with "execs cons" => ((with_reducible show wpAny _ _ _ _ _ (Shared.mk _ _ _ (@HAdd.hAdd Nat Nat Nat _ _ _) _)); refine stGen s rfl rfl rfl (fun tk9 => ?_); (try dsimp only))
  k_with "MyQ" => ((fail_if_success (with_reducible show wpAny _ _ _ _ _ _)); (with_reducible first | refine qNext (by with_reducible assumption) ?_ | refine qRet (by with_reducible assumption) ?_ | refine qBrk (by with_reducible assumption) ?_ | refine qCont (by with_reducible assumption) ?_ | refine qGen (by with_reducible assumption) ?_); (try dsimp only))
  k_with "MyAll" => first | k_extra "MyQ" | (k_unfold; (try dsimp only)) | (k_end; kc_close) | walk1 | (dsimp only; walk1) | (leave1; walk_say "STEP leave1"; (try dsimp only)) | fail "no step"
  k_with "eval Name" => (k_here; (with_reducible show wpAny _ _ (eval (Expr.Name _ _) (envOf _ _ _ _ _)) _ _ _); k_dflt (refine' ld ?k1 ?k2 ?_ rfl (by kernel_rfl!) (by kernel_rfl!); (case k1 => k_asm); (case k2 => exact rfl); k_whole))
  k_with "MySize" => ((with_reducible show List.length (List.nil) ≤ _); exact Nat.zero_le _)
  k_with "MyKSub" => (intro p77 hp77; (repeat (first | with_reducible exact hp77 | with_reducible refine List.mem_cons_of_mem _ ?_)); done)
  trivial
theorem abs_tdiv {u q : Int} (hq : 0 < q) : (if u.tdiv q < 0 then -(u.tdiv q) else u.tdiv q) = (if u < 0 then -u else u) / q ∧ (u < 0 → u.tdiv q ≤ 0) ∧ (¬ u < 0 → 0 ≤ u.tdiv q) := by
  by_cases h : u < 0
  · have e : u.tdiv q = -((-u) / q) := by
      rw [← Int.tdiv_eq_ediv_of_nonneg (by omega), Int.neg_tdiv, Int.neg_neg]
    have h0 : 0 ≤ (-u) / q := Int.ediv_nonneg (by omega) (by omega)
    rw [e, if_pos h]
    refine ⟨?_, by omega, by omega⟩
    split <;> omega
  · have e : u.tdiv q = u / q := Int.tdiv_eq_ediv_of_nonneg (by omega)
    have h0 : 0 ≤ u / q := Int.ediv_nonneg (by omega) (by omega)
    rw [e, if_neg h]
    refine ⟨?_, by omega, by omega⟩
    split <;> omega
theorem abs_mul {u q : Int} (hq : 0 < q) : (if u * q < 0 then -(u * q) else u * q) = (if u < 0 then -u else u) * q ∧ (u < 0 → u * q ≤ 0) ∧ (¬ u < 0 → 0 ≤ u * q) := by
  by_cases h : u < 0
  · have h0 : u * q < 0 := Int.mul_neg_of_neg_of_pos h hq
    rw [if_pos h, if_pos h0, Int.neg_mul]
    exact ⟨rfl, by omega, by omega⟩
  · have h0 : 0 ≤ u * q := Int.mul_nonneg (by omega) (by omega)
    rw [if_neg h, if_neg (by omega)]
    exact ⟨rfl, by omega, by omega⟩
/-- what the law's own numbers leave ahead of the figures' cut -/
noncomputable def topOf (u sc rs : Int) : Int := if 0 ≤ rs then ((if u < 0 then -u else u) * 10 ^ rs.toNat) / (10 ^ sc.toNat) else (if u < 0 then -u else u) / (10 ^ sc.toNat * 10 ^ (0 - rs).toNat)
theorem natSplit {a b : Int} (h1 : 0 ≤ b) (h : b ≤ a) : a.toNat = (a - b).toNat + b.toNat := by omega
theorem natJoin {a b : Int} (h1 : 0 ≤ a) (h : b < 0) : a.toNat + (0 - b).toNat = (a - b).toNat := by omega
theorem topOf_units {u sc rs : Int} (h1 : 0 ≤ sc) : (if unitsAt u sc rs < 0 then -(unitsAt u sc rs) else unitsAt u sc rs) = topOf u sc rs ∧ (u < 0 → unitsAt u sc rs ≤ 0) ∧ (¬ u < 0 → 0 ≤ unitsAt u sc rs) := by
  unfold unitsAt topOf
  by_cases h : sc ≤ rs
  · rw [if_pos h, if_pos (Int.le_trans h1 h)]
    have q := abs_mul (u := u) (pow_pos10 (rs - sc).toNat)
    refine ⟨q.1.trans ?_, q.2⟩
    rw [natSplit h1 h, Int.pow_add, ← Int.mul_assoc]
    exact (Int.mul_ediv_cancel _ (Int.ne_of_gt (pow_pos10 sc.toNat))).symm
  · rw [if_neg h]
    have q := abs_tdiv (u := u) (pow_pos10 (sc - rs).toNat)
    refine ⟨q.1.trans ?_, q.2⟩
    by_cases h2 : 0 ≤ rs
    · rw [if_pos h2, natSplit h2 (Int.le_of_lt (Int.not_le.mp h)), Int.pow_add]
      exact (Int.mul_ediv_mul_of_pos_left _ _ (pow_pos10 _)).symm
    · rw [if_neg h2, ← Int.pow_add, natJoin h1 (Int.not_le.mp h2)]
theorem left_neg {u sc rs d : Int} {sg : Bool} (h1 : 0 ≤ sc) (hu : u < 0) (hs : sg = true) : 0 - topOf u sc rs % 10 ^ d.toNat = keptOf d.toNat sg (unitsAt u sc rs) := by
  have q := topOf_units (u := u) (rs := rs) h1
  have q2 := q.2.1 hu
  by_cases hX : unitsAt u sc rs < 0
  · rw [keptOf_neg hX hs, ← q.1]
  · rw [keptOf_pos hX, ← q.1, if_neg hX, show unitsAt u sc rs = 0 by omega, Int.zero_emod]; rfl
theorem left_un {u sc rs d : Int} {sg : Bool} (h1 : 0 ≤ sc) (hs : sg = false) : topOf u sc rs % 10 ^ d.toNat = keptOf d.toNat sg (unitsAt u sc rs) := by
  have q := topOf_units (u := u) (rs := rs) h1
  rw [keptOf_un hs, q.1]
theorem left_pos {u sc rs d : Int} {sg : Bool} (h1 : 0 ≤ sc) (hu : ¬ u < 0) : topOf u sc rs % 10 ^ d.toNat = keptOf d.toNat sg (unitsAt u sc rs) := by
  have q := topOf_units (u := u) (rs := rs) h1
  have q2 := q.2.2 hu
  rw [keptOf_pos (by omega), q.1]
theorem top_a {u sc rs d : Int} (h1 : 0 ≤ rs) : (((if u < 0 then -u else u) * 10 ^ rs.toNat).fdiv (10 ^ sc.toNat)).fmod (10 ^ d.toNat) = topOf u sc rs % 10 ^ d.toNat := by
  have p1 := pow_pos10 sc.toNat
  have p2 := pow_pos10 d.toNat
  rw [Int.fmod_eq_emod_of_nonneg _ (by omega), Int.fdiv_eq_ediv_of_nonneg _ (by omega), topOf, if_pos h1]
theorem top_b {u sc rs d : Int} (h1 : ¬ 0 ≤ rs) : ((if u < 0 then -u else u).fdiv (10 ^ sc.toNat * 10 ^ (0 - rs).toNat)).fmod (10 ^ d.toNat) = topOf u sc rs % 10 ^ d.toNat := by
  have p1 := Int.mul_pos (pow_pos10 sc.toNat) (pow_pos10 (0 - rs).toNat)
  have p2 := pow_pos10 d.toNat
  rw [Int.fmod_eq_emod_of_nonneg _ (by omega), Int.fdiv_eq_ediv_of_nonneg _ (by omega), topOf, if_neg h1]
section
variable {w : World} {mean : ExcName → Option Value} {mg mb : Str → Option Value}
theorem law_left_does (q : Addr) (kk : Nat) (tx : Str) (u sc rs d : Int) (sg : Bool) (t1 t2 t3 t4 t5 : Tok) (hu0 : u.natAbs < 10 ^ 30) (h1 : 0 ≤ sc) (h2 : sc ≤ 20) (h3 : -5 ≤ rs) (h4 : rs ≤ 20) (h5 : 0 ≤ d) (h6 : d ≤ 18) :
    Does w mean mg mb 545 1 [.int u t1, .int sc t2, .ref q] [(q, tupOf [.str tx t3, .int rs t4, .int d t5, .bool sg] kk)] (fun nw v => nw = [] ∧ ∃ t', v = .int (keptOf d.toNat sg (unitsAt u sc rs)) t') := by
  refine unBox ?_
  simp (zetaDelta := true) (disch := (k_dflt (
    refine inBox ?_
    have b20 : ∀ n : Nat, n ≤ 20 → ((10 : Int) ^ n).natAbs < 2 ^ 300 := fun n hn => by
      rw [Int.natAbs_pow]
      exact Nat.lt_of_le_of_lt (Nat.pow_le_pow_right (by decide) hn) (by decide)
    have b30 : (if u < 0 then -u else u).natAbs < 2 ^ 300 := by
      have e : (10 : Nat) ^ 30 < 2 ^ 300 := by decide
      split <;> omega
    have hm1 : IntMulOk (if u < 0 then -u else u) (10 ^ rs.toNat) := IntMulOk.of_bits (bitsOk b30) (bitsOk (b20 _ (by omega)))
    have hm2 : IntMulOk (10 ^ sc.toNat) (10 ^ (0 - rs).toNat) := IntMulOk.of_bits (bitsOk (b20 _ (by omega))) (bitsOk (b20 _ (by omega)))
    have p1 := pow_pos10 sc.toNat
    have p2 := pow_pos10 (0 - rs).toNat
    have hq0 : (10 : Int) ^ d.toNat ≠ 0 := Int.pow_ne_zero (by decide)
    have hq1 : (10 : Int) ^ sc.toNat ≠ 0 := by omega
    have hq3 : (0 : Int) < 10 ^ sc.toNat * 10 ^ (0 - rs).toNat := Int.mul_pos p1 p2
    have hq2 : (10 : Int) ^ sc.toNat * 10 ^ (0 - rs).toNat ≠ 0 := by omega
    have hp1 : Builtin.divisionGoesByPylong ((if u < 0 then -u else u) * 10 ^ rs.toNat) (10 ^ sc.toNat) = false := noPyl p1 (Int.lt_of_le_of_lt (pow_le (n := 20) (by omega)) (by decide))
    have hp2 : Builtin.divisionGoesByPylong (if u < 0 then -u else u) (10 ^ sc.toNat * 10 ^ (0 - rs).toNat) = false := noPyl hq3 (by
      rw [← Int.pow_add]
      exact Int.lt_of_le_of_lt (pow_le (z := ((sc.toNat + (0 - rs).toNat : Nat) : Int)) (n := 25) (by omega)) (by decide))
    intro dp un gd cn cs a ccd cl outer A₀ base h₀ L' m s Q E B F X N T hk hd hu hret
    have cE := InElt.start s.heap
    walk_at "MyEnter"
    k_steps
    all_goals refine hret _ _ _ _ (by assumption) (newsTake 0 (by assumption)) ⟨rfl, _, congrArg (Value.int · _) ?_⟩
    · rw [top_a (by assumption)]; exact left_neg h1 (by assumption) (by assumption)
    · rw [top_a (by assumption)]; exact left_un h1 (by assumption)
    · rw [top_a (by assumption)]; exact left_pos h1 (by assumption)
    · rw [top_b (by assumption)]; exact left_neg h1 (by assumption) (by assumption)
    · rw [top_b (by assumption)]; exact left_un h1 (by assumption)
    · rw [top_b (by assumption)]; exact left_pos h1 (by assumption)
    ))) only [↓Box.of]
end
end
section
theorem kw_41_ldec : True := by
  k_with_none
  k_with "MyEnter" => (refine wpAny_call ?_; k_dflt (refine' code_defG ?k1 ?k2 ?k3 ?k4 ?k5 ?kA ?kF ?kK ?k6 ?k7 ?k8 ?k9 ?kB ?_ ?c2 ?c3 ?c4 ?c5; (case kA => exact rfl); (case kF => exact rfl); (case kK => assumption); (case k1 => k_asm); (case k2 => k_asm); (case k3 => k_asm); (case k4 => k_asm); (case k5 => k_asm); (case k6 => k_is); (case k7 => k_is); (case k8 => ktr_room); (case k9 => first | exact BindsTo.of_eq rfl | exact binds_K (by k_in) rfl (by k_is) rfl rfl rfl); (case c5 => decide); (case kB => exact locs rfl); (case c2 => exact rfl); (case c3 => exact rfl); (case c4 => exact rfl); k_whole; intro g' L' h' FG' F' N' B' X' T' kG'; (try dsimp only); (try k_lift B'); (try k_fold)))
  k_with "binaryOp FloorDiv int int" => (k_here; (with_reducible refine floordiv_int ?d0 ?_ (Or.inl ?d1)); (case d0 => first | with_reducible assumption | decide | omega); (case d1 => first | with_reducible assumption | exact PyProof.noPylong_of_log2 (by decide +kernel)))
  k_with "MyKEnter" => ((fail_if_success k_inElt); (refine' code_defC ?k1 ?k2 ?k3 ?k4 ?k5 ?kA ?kF ?kK ?k6 ?k7 ?k8 ?k9 ?kB ?kD ?_ ?c2 ?c3 ?c4; (case kA => exact rfl); (case kF => exact rfl); (case kK => exact rfl); (case k1 => k_asm); (case k2 => k_asm); (case k3 => k_asm); (case k4 => k_asm); (case k5 => k_asm); (case k6 => k_is); (case k7 => k_is); (case k8 => ktr_room); (case k9 => first | exact BindsTo.of_eq rfl | exact binds_K (by k_in) rfl (by k_is) rfl rfl rfl | fail "k_enter: no rule for these arguments"); (case kB => exact rfl); (case kD => decide +kernel); (case c2 => exact rfl); (case c3 => exact rfl); (case c4 => exact rfl); k_whole; intro g' L' h' tk' cells' FG' F' N' Y' B' X' T' l1; (try k_lt l1); k_cells Y'; (try simp only [List.cons_append, List.nil_append] at N'); (try dsimp only); (try k_lift B'); (try k_fold)))
  k_with "MyKEnter" => ((fail_if_success k_inElt); (refine' code_def ?k1 ?k2 ?k3 ?k4 ?k5 ?kA ?kF ?kK ?k6 ?k7 ?k8 ?k9 ?kB ?_ ?c2 ?c3 ?c4 ?c5; (case kA => exact rfl); (case kF => exact rfl); (case kK => exact rfl); (case k1 => k_asm); (case k2 => k_asm); (case k3 => k_asm); (case k4 => k_asm); (case k5 => k_asm); (case k6 => k_is); (case k7 => k_is); (case k8 => ktr_room); (case k9 => first | exact BindsTo.of_eq rfl | exact binds_K (by k_in) rfl (by k_is) rfl rfl rfl | fail "k_enter: no rule for these arguments"); (case c5 => decide); (case kB => exact locs rfl); (case c2 => exact rfl); (case c3 => exact rfl); (case c4 => exact rfl); k_whole; intro g' L' h' FG' F' N' B' X' T'; (try dsimp only); (try k_lift B'); (try k_fold)))
  k_with "MyPre" => first | with_reducible assumption | omega | with_reducible decide | fail "MyPre"
  k_with "execs cons" => ((fail_if_success k_inElt); first | (with_reducible refine consQ (by with_reducible assumption) (fun Q9 hQ9 => ?_)) | (with_reducible refine consQQ (fun Q8 hQ8 Q9 hQ9 => ?_)))
  k_with "execs cons" => (k_made; walk_at "execs cons")
  k_with "execs cons" => ((with_reducible show wpAny _ _ _ _ _ (Shared.mk _ _ _ (@HAdd.hAdd Nat Nat Nat _ _ _) _)); refine stGen s rfl rfl rfl (fun tk9 => ?_); (try dsimp only))
  k_with "MyQ" => ((fail_if_success (with_reducible show wpAny _ _ _ _ _ _)); (with_reducible first | refine qNext (by with_reducible assumption) ?_ | refine qRet (by with_reducible assumption) ?_ | refine qBrk (by with_reducible assumption) ?_ | refine qCont (by with_reducible assumption) ?_ | refine qGen (by with_reducible assumption) ?_); (try dsimp only))
  k_with "MyAll" => first | k_extra "MyQ" | (k_unfold; (try dsimp only)) | (k_end; kc_close) | walk1 | (dsimp only; walk1) | (leave1; walk_say "STEP leave1"; (try dsimp only)) | fail "no step"
  k_with "eval Name" => (k_here; (with_reducible show wpAny _ _ (eval (Expr.Name _ _) (envOf _ _ _ _ _)) _ _ _); k_dflt (refine' ld ?k1 ?k2 ?_ rfl (by kernel_rfl!) (by kernel_rfl!); (case k1 => k_asm); (case k2 => exact rfl); k_whole))
  k_with "MySize" => ((with_reducible show List.length (List.nil) ≤ _); exact Nat.zero_le _)
  k_with "MyKSub" => (intro p77 hp77; (repeat (first | with_reducible exact hp77 | with_reducible refine List.mem_cons_of_mem _ ?_)); done)
  trivial
theorem decOf_neg2 {u sc : Int} (h : sc < 0) : (u * 10 ^ (0 - sc).toNat, 0) = decOf u sc := by rw [decOf, if_pos h, Int.zero_sub]
section
variable {w : World} {mean : ExcName → Option Value} {mg mb : Str → Option Value}
theorem law_decimal_does (u sc : Int) (t tt : Tok) (hu0 : u.natAbs < 10 ^ 30) (h1 : -5 ≤ sc) (h2 : sc ≤ 20) :
    Does w mean mg mb 552 1 [.int u t, .int sc tt] [] (fun nw v => ∃ r t1 t2, nw = [(r, tupOf [.int (decOf u sc).1 t1, .int (decOf u sc).2 t2] 0)] ∧ v = .ref r) := by
  refine unBox ?_
  simp (zetaDelta := true) (disch := (k_dflt (
    refine inBox ?_
    have hm : IntMulOk u (10 ^ (0 - sc).toNat) := IntMulOk.of_bits (bitsOk (Nat.lt_trans hu0 (by decide))) (bitsOk (by
      have h : (10 : Nat) ^ (0 - sc).toNat ≤ 10 ^ 20 := Nat.pow_le_pow_right (by decide) (by omega)
      rw [Int.natAbs_pow]
      exact Nat.lt_of_le_of_lt h (by decide)))
    intro dp un gd cn cs a ccd cl outer A₀ base h₀ L' m s Q E B F X N T hk hd hu hret
    have cE := InElt.start s.heap
    walk_at "MyEnter"
    k_with "exec While BoolOp cons nil" => k_while (fun _ units scale => DecI u sc units scale) (fun _ units scale => scale.toNat) "units" "scale"
    k_with "state" => first | exact DecI.start (by assumption) | exact DecI.turn (by assumption) (by assumption) (by assumption)
    k_steps
    · refine hret _ _ _ _ (by assumption) (newsTake 1 (by assumption)) ?_
      exact decFin (decOf_neg2 (by assumption)) rfl
    · refine hret _ _ _ _ (by assumption) (newsTake 1 (by assumption)) ?_
      exact decFin (DecI.done2 (by assumption) (by assumption) (by assumption) (by assumption)) rfl
    · refine hret _ _ _ _ (by assumption) (newsTake 1 (by assumption)) ?_
      exact decFin (DecI.done1 (by assumption) (by assumption) (by assumption)) rfl
    ))) only [↓Box.of]
end
end
section
theorem kw_42_right : True := by
  k_with_none
  k_with "MyEnter" => (refine wpAny_call ?_; k_dflt (refine' code_defG ?k1 ?k2 ?k3 ?k4 ?k5 ?kA ?kF ?kK ?k6 ?k7 ?k8 ?k9 ?kB ?_ ?c2 ?c3 ?c4 ?c5; (case kA => exact rfl); (case kF => exact rfl); (case kK => assumption); (case k1 => k_asm); (case k2 => k_asm); (case k3 => k_asm); (case k4 => k_asm); (case k5 => k_asm); (case k6 => k_is); (case k7 => k_is); (case k8 => ktr_room); (case k9 => first | exact BindsTo.of_eq rfl | exact binds_K (by k_in) rfl (by k_is) rfl rfl rfl); (case c5 => decide); (case kB => exact locs rfl); (case c2 => exact rfl); (case c3 => exact rfl); (case c4 => exact rfl); k_whole; intro g' L' h' FG' F' N' B' X' T' kG'; (try dsimp only); (try k_lift B'); (try k_fold)))
  k_with "binaryOp FloorDiv int int" => (k_here; (with_reducible refine floordiv_int ?d0 ?_ (Or.inl ?d1)); (case d0 => first | with_reducible assumption | decide | omega); (case d1 => first | with_reducible assumption | exact PyProof.noPylong_of_log2 (by decide +kernel)))
  k_with "MyKEnter" => ((fail_if_success k_inElt); (refine' code_defC ?k1 ?k2 ?k3 ?k4 ?k5 ?kA ?kF ?kK ?k6 ?k7 ?k8 ?k9 ?kB ?kD ?_ ?c2 ?c3 ?c4; (case kA => exact rfl); (case kF => exact rfl); (case kK => exact rfl); (case k1 => k_asm); (case k2 => k_asm); (case k3 => k_asm); (case k4 => k_asm); (case k5 => k_asm); (case k6 => k_is); (case k7 => k_is); (case k8 => ktr_room); (case k9 => first | exact BindsTo.of_eq rfl | exact binds_K (by k_in) rfl (by k_is) rfl rfl rfl | fail "k_enter: no rule for these arguments"); (case kB => exact rfl); (case kD => decide +kernel); (case c2 => exact rfl); (case c3 => exact rfl); (case c4 => exact rfl); k_whole; intro g' L' h' tk' cells' FG' F' N' Y' B' X' T' l1; (try k_lt l1); k_cells Y'; (try simp only [List.cons_append, List.nil_append] at N'); (try dsimp only); (try k_lift B'); (try k_fold)))
  k_with "MyKEnter" => ((fail_if_success k_inElt); (refine' code_def ?k1 ?k2 ?k3 ?k4 ?k5 ?kA ?kF ?kK ?k6 ?k7 ?k8 ?k9 ?kB ?_ ?c2 ?c3 ?c4 ?c5; (case kA => exact rfl); (case kF => exact rfl); (case kK => exact rfl); (case k1 => k_asm); (case k2 => k_asm); (case k3 => k_asm); (case k4 => k_asm); (case k5 => k_asm); (case k6 => k_is); (case k7 => k_is); (case k8 => ktr_room); (case k9 => first | exact BindsTo.of_eq rfl | exact binds_K (by k_in) rfl (by k_is) rfl rfl rfl | fail "k_enter: no rule for these arguments"); (case c5 => decide); (case kB => exact locs rfl); (case c2 => exact rfl); (case c3 => exact rfl); (case c4 => exact rfl); k_whole; intro g' L' h' FG' F' N' B' X' T'; (try dsimp only); (try k_lift B'); (try k_fold)))
  k_with "MyPre" => first | with_reducible assumption | omega | with_reducible decide | fail "MyPre"
  k_with "execs cons" => ((fail_if_success k_inElt); first | (with_reducible refine consQ (by with_reducible assumption) (fun Q9 hQ9 => ?_)) | (with_reducible refine consQQ (fun Q8 hQ8 Q9 hQ9 => ?_)))
  k_with "execs cons" => (k_made; walk_at "execs cons")
  k_with "execs cons" => ((with_reducible show wpAny _ _ _ _ _ (Shared.mk _ _ _ (@HAdd.hAdd Nat Nat Nat _ _ _) _)); refine stGen s rfl rfl rfl (fun tk9 => ?_); (try dsimp only))
  k_with "MyQ" => ((fail_if_success (with_reducible show wpAny _ _ _ _ _ _)); (with_reducible first | refine qNext (by with_reducible assumption) ?_ | refine qRet (by with_reducible assumption) ?_ | refine qBrk (by with_reducible assumption) ?_ | refine qCont (by with_reducible assumption) ?_ | refine qGen (by with_reducible assumption) ?_); (try dsimp only))
  k_with "MyAll" => first | k_extra "MyQ" | (k_unfold; (try dsimp only)) | (k_end; kc_close) | walk1 | (dsimp only; walk1) | (leave1; walk_say "STEP leave1"; (try dsimp only)) | fail "no step"
  k_with "eval Name" => (k_here; (with_reducible show wpAny _ _ (eval (Expr.Name _ _) (envOf _ _ _ _ _)) _ _ _); k_dflt (refine' ld ?k1 ?k2 ?_ rfl (by kernel_rfl!) (by kernel_rfl!); (case k1 => k_asm); (case k2 => exact rfl); k_whole))
  k_with "MySize" => ((with_reducible show List.length (List.nil) ≤ _); exact Nat.zero_le _)
  k_with "MyKSub" => (intro p77 hp77; (repeat (first | with_reducible exact hp77 | with_reducible refine List.mem_cons_of_mem _ ?_)); done)
  trivial
section
variable {w : World} {mean : ExcName → Option Value} {mg mb : Str → Option Value}
theorem cut_to_does (x dx : Addr) (T : ShT) (U : Us) (S : Sh) (q : Addr) (kk : Nat) (u sc k : Int) (tu ts : Tok) (h1 : 1 ≤ S.digits) (h2 : S.digits ≤ 18) (hs : S.size = U.size S.digits) (h5 : -5 ≤ S.scale) (h6 : S.scale ≤ 20)
    (h7 : u.natAbs < 10 ^ 30) (h8 : 0 ≤ sc) (h9 : sc ≤ 20) (hk : keptOf S.digits.toNat S.signed (unitsAt u sc S.scale) = k) :
    Does w mean mg mb 291 4 [.ref x, .ref q] [(x, instObj 133 dx), (dx, dictOf (shapeEs w T U.str S) 11), (q, tupOf [.int u tu, .int sc ts] kk)]
      (fun nw v => nw = [] ∧ ∃ t', v = .bytes (byteArr (encOf U S k)) t') := by
  subst hk
  have hz := size_in (U := U) h1 h2
  rw [← hs] at hz
  exact cut_octets_does x dx T U S q kk u sc tu ts h1 h2 hz.1 hz.2 h5 h6 h7 h8 h9
theorem law_left_to (q : Addr) (kk : Nat) (tx : Str) (u sc rs d k : Int) (sg : Bool) (t1 t2 t3 t4 t5 : Tok) (hu0 : u.natAbs < 10 ^ 30) (h1 : 0 ≤ sc) (h2 : sc ≤ 20) (h3 : -5 ≤ rs) (h4 : rs ≤ 20) (h5 : 0 ≤ d) (h6 : d ≤ 18) (hk : keptOf d.toNat sg (unitsAt u sc rs) = k) :
    Does w mean mg mb 545 1 [.int u t1, .int sc t2, .ref q] [(q, tupOf [.str tx t3, .int rs t4, .int d t5, .bool sg] kk)] (fun nw v => nw = [] ∧ ∃ t', v = .int k t') := by
  subst hk
  exact law_left_does q kk tx u sc rs d sg t1 t2 t3 t4 t5 hu0 h1 h2 h3 h4 h5 h6
end
theorem notNe {x : List UInt8} {P : Prop} (h : (x != x) = true) : P := absurd h (by simp)
noncomputable def MoreP (S : Sh) (u sc k : Int) : Prop := 0 ≤ u → S.scale ≤ sc → keptOf S.digits.toNat S.signed (unitsAt (10 * u + 7) (sc + 1) S.scale) = k
noncomputable def MoreN (S : Sh) (u sc k : Int) : Prop := ¬ 0 ≤ u → S.scale ≤ sc → keptOf S.digits.toNat S.signed (unitsAt (10 * u + -7) (sc + 1) S.scale) = k
theorem kw_42_right_a : True := by
  k_with "MyPre" => first | with_reducible assumption | omega | with_reducible decide | (rename MoreP _ _ _ _ => z9; exact z9 (by assumption) (by assumption)) | (rename MoreN _ _ _ _ => z9; exact z9 (by assumption) (by assumption)) | fail "MyPre"
  k_with "call ref" => (k_dflt (k_here; (with_reducible show wpAny _ _ (call (Value.ref 291) _) _ _ _); (fail_if_success k_inElt); k_dflt (refine' Does.use ?k1 ?k2 ?k3 ?k4 ?k5 ?kK (cut_to_does _ _ _ _ _ _ _ _ _ _ _ _ ?p0 ?p1 ?p2 ?p3 ?p4 ?p5 ?p6 ?p7 ?p8) ?kS ?kd ?ku ?_; (case k1 => k_asm); (case k2 => k_asm); (case k3 => k_asm); (case k4 => k_asm); (case k5 => k_asm); (case kK => first | exact rfl | assumption); (case kS => (repeat' (first | exact List.forall_mem_nil _ | (refine List.forall_mem_cons.mpr ⟨?_, ?_⟩) | k_mem | (intro p9 hp9; repeat' (first | exact hp9 | exact List.mem_append_left _ hp9 | exact List.mem_append_right _ hp9 | refine List.Mem.tail _ ?_ | refine List.mem_append_right _ ?_))))); (case kd => ktr_room); (case ku => ktr_units); (case p0 => walk_at "MyPre"); (case p1 => walk_at "MyPre"); (case p2 => walk_at "MyPre"); (case p3 => walk_at "MyPre"); (case p4 => walk_at "MyPre"); (case p5 => walk_at "MyPre"); (case p6 => walk_at "MyPre"); (case p7 => walk_at "MyPre"); (case p8 => walk_at "MyPre"); k_whole); (intro v9 h9 tk9 nw9 E9 F9 N9 hp9; (obtain ⟨hn9, t9, hv9⟩ := hp9; subst hn9; subst hv9); (try simp only [List.nil_append, List.cons_append] at N9); (try dsimp only); (try k_sweep); (try clear E9))))
  k_with "call ref" => (k_dflt (k_here; (with_reducible show wpAny _ _ (call (Value.ref 277) _) _ _ _); (fail_if_success k_inElt); k_dflt (refine' Does.use ?k1 ?k2 ?k3 ?k4 ?k5 ?kK (is_number_does _ _ _ _ _ _ _ ?p0 ?p1 ?p2 ?p3 ?p4 ?p5) ?kS ?kd ?ku ?_; (case k1 => k_asm); (case k2 => k_asm); (case k3 => k_asm); (case k4 => k_asm); (case k5 => k_asm); (case kK => first | exact rfl | assumption); (case kS => (repeat' (first | exact List.forall_mem_nil _ | (refine List.forall_mem_cons.mpr ⟨?_, ?_⟩) | k_mem | (intro p9 hp9; repeat' (first | exact hp9 | exact List.mem_append_left _ hp9 | exact List.mem_append_right _ hp9 | refine List.Mem.tail _ ?_ | refine List.mem_append_right _ ?_))))); (case kd => ktr_room); (case ku => ktr_units); (case p0 => walk_at "MyPre"); (case p1 => walk_at "MyPre"); (case p2 => walk_at "MyPre"); (case p3 => walk_at "MyPre"); (case p4 => walk_at "MyPre"); (case p5 => walk_at "MyPre"); k_whole); (intro v9 h9 tk9 nw9 E9 F9 N9 hp9; (obtain ⟨hn9, hv9⟩ := hp9; subst hn9; subst hv9); (try simp only [List.nil_append, List.cons_append] at N9); (try dsimp only); (try k_sweep); (try clear E9))))
  k_with "call ref" => (k_dflt (k_here; (with_reducible show wpAny _ _ (call (Value.ref 284) _) _ _ _); (fail_if_success k_inElt); k_dflt (refine' Does.use ?k1 ?k2 ?k3 ?k4 ?k5 ?kK (number_in_does _ _ _ _ _ _ _ ?p0 ?p1 ?p2 ?p3 ?p4 ?p5 ?p6 ?p7) ?kS ?kd ?ku ?_; (case k1 => k_asm); (case k2 => k_asm); (case k3 => k_asm); (case k4 => k_asm); (case k5 => k_asm); (case kK => first | exact rfl | assumption); (case kS => (repeat' (first | exact List.forall_mem_nil _ | (refine List.forall_mem_cons.mpr ⟨?_, ?_⟩) | k_mem | (intro p9 hp9; repeat' (first | exact hp9 | exact List.mem_append_left _ hp9 | exact List.mem_append_right _ hp9 | refine List.Mem.tail _ ?_ | refine List.mem_append_right _ ?_))))); (case kd => ktr_room); (case ku => ktr_units); (case p0 => walk_at "MyPre"); (case p1 => walk_at "MyPre"); (case p2 => walk_at "MyPre"); (case p3 => walk_at "MyPre"); (case p4 => walk_at "MyPre"); (case p5 => walk_at "MyPre"); (case p6 => walk_at "MyPre"); (case p7 => walk_at "MyPre"); k_whole); (intro v9 h9 tk9 nw9 E9 F9 N9 hp9; (obtain ⟨r9, t9, u9, hn9, hv9⟩ := hp9; subst hn9; subst hv9); (try simp only [List.nil_append, List.cons_append] at N9); (try dsimp only); (try k_sweep); (try clear E9))))
  k_with "call ref" => (k_dflt (k_here; (with_reducible show wpAny _ _ (call (Value.ref 545) _) _ _ _); (fail_if_success k_inElt); k_dflt (refine' Does.use ?k1 ?k2 ?k3 ?k4 ?k5 ?kK (law_left_to _ _ _ _ _ _ _ _ _ _ _ _ _ _ ?p0 ?p1 ?p2 ?p3 ?p4 ?p5 ?p6 ?p7) ?kS ?kd ?ku ?_; (case k1 => k_asm); (case k2 => k_asm); (case k3 => k_asm); (case k4 => k_asm); (case k5 => k_asm); (case kK => first | exact rfl | assumption); (case kS => (repeat' (first | exact List.forall_mem_nil _ | (refine List.forall_mem_cons.mpr ⟨?_, ?_⟩) | k_mem | (intro p9 hp9; repeat' (first | exact hp9 | exact List.mem_append_left _ hp9 | exact List.mem_append_right _ hp9 | refine List.Mem.tail _ ?_ | refine List.mem_append_right _ ?_))))); (case kd => ktr_room); (case ku => ktr_units); (case p0 => walk_at "MyPre"); (case p1 => walk_at "MyPre"); (case p2 => walk_at "MyPre"); (case p3 => walk_at "MyPre"); (case p4 => walk_at "MyPre"); (case p5 => walk_at "MyPre"); (case p6 => walk_at "MyPre"); (case p7 => walk_at "MyPre"); k_whole); (intro v9 h9 tk9 nw9 E9 F9 N9 hp9; (obtain ⟨hn9, t9, hv9⟩ := hp9; subst hn9; subst hv9); (try simp only [List.nil_append, List.cons_append] at N9); (try dsimp only); (try k_sweep); (try clear E9))))
  k_with "call ref" => (k_dflt (k_here; (with_reducible show wpAny _ _ (call (Value.ref 552) _) _ _ _); (fail_if_success k_inElt); k_dflt (refine' Does.use ?k1 ?k2 ?k3 ?k4 ?k5 ?kK (law_decimal_does _ _ _ _ ?p0 ?p1 ?p2) ?kS ?kd ?ku ?_; (case k1 => k_asm); (case k2 => k_asm); (case k3 => k_asm); (case k4 => k_asm); (case k5 => k_asm); (case kK => first | exact rfl | assumption); (case kS => (repeat' (first | exact List.forall_mem_nil _ | (refine List.forall_mem_cons.mpr ⟨?_, ?_⟩) | k_mem | (intro p9 hp9; repeat' (first | exact hp9 | exact List.mem_append_left _ hp9 | exact List.mem_append_right _ hp9 | refine List.Mem.tail _ ?_ | refine List.mem_append_right _ ?_))))); (case kd => ktr_room); (case ku => ktr_units); (case p0 => walk_at "MyPre"); (case p1 => walk_at "MyPre"); (case p2 => walk_at "MyPre"); k_whole); (intro v9 h9 tk9 nw9 E9 F9 N9 hp9; (obtain ⟨r9, t9, u9, hn9, hv9⟩ := hp9; subst hn9; subst hv9); (try simp only [List.nil_append, List.cons_append] at N9); (try dsimp only); (try k_sweep); (try clear E9))))
  trivial
section
variable {w : World} {mean : ExcName → Option Value} {mg mb : Str → Option Value}
theorem law_right_does (x dx : Addr) (T : ShT) (U : Us) (S : Sh) (q : Addr) (kk : Nat) (tx : Str) (u sc k : Int) (t1 t2 t3 t4 t5 : Tok) (h1 : 1 ≤ S.digits) (h2 : S.digits ≤ 18) (hs : S.size = U.size S.digits) (h5 : -5 ≤ S.scale) (h6 : S.scale ≤ 20)
    (h7 : u.natAbs < 10 ^ 28) (h8 : 0 ≤ sc) (h9 : sc ≤ 15) (hk : keptOf S.digits.toNat S.signed (unitsAt u sc S.scale) = k)
    (hk1 : k < 10 ^ S.digits.toNat) (hk2 : -k < 10 ^ S.digits.toNat) (hk3 : S.signed = true ∨ 0 ≤ k) (hk4 : k.natAbs < 10 ^ 30)
    (hd1 : (decOf k S.scale).1.natAbs < 10 ^ 30) (hd2 : 0 ≤ (decOf k S.scale).2) (hd3 : (decOf k S.scale).2 ≤ 20) (hd4 : keptOf S.digits.toNat S.signed (unitsAt (decOf k S.scale).1 (decOf k S.scale).2 S.scale) = k)
    (hm1 : MoreP S u sc k) (hm2 : MoreN S u sc k) (hI : KBa.In (encOf U S k)) (hl : ((encOf U S k).length : Int) = S.size) :
    Does w mean mg mb 559 16 [.ref x, .ref q, .int u t1, .int sc t2] [(x, instObj 133 dx), (dx, dictOf (shapeEs w T U.str S) 11), (q, tupOf [.str tx t3, .int S.scale t4, .int S.digits t5, .bool S.signed] kk)] (fun nw v => nw = [] ∧ v = .bool true) := by
  refine unBox ?_
  simp (zetaDelta := true) (disch := (k_dflt (
    refine inBox ?_
    have h7' : u.natAbs < 10 ^ 30 := Nat.lt_trans h7 (by decide)
    have hz : S.size ≤ 20 := by rw [hs]; exact (size_in h1 h2).2
    intro dp un gd cn cs a ccd cl outer A₀ base h₀ L' m s Q E B F X N T hk hd hu hret
    have cE := InElt.start s.heap
    walk_at "MyEnter"
    repeat ((fail_if_success (with_reducible show wpAny _ _ (exec (Stmt.If (Expr.BoolOp _ _ _) _ _ _) _) _ _ _)); (first | k_extra "MyQ" | (k_unfold; (try dsimp only)) | walk1 | (dsimp only; walk1)))
    rename Fr _ _ _ _ => F9
    rename News _ _ _ _ => N9
    refine joinStay F9 N9 ?chk ?go
    case chk =>
      k_steps
      all_goals first
        | exact absurd hl (by assumption)
        | exact notNe (x := (byteArr (encOf U S k)).toList) (by assumption)
        | (rename News _ _ _ _ => NZ; exact StayP.mk' rfl (by assumption) (cb_drop NZ (fun p hp => by repeat (first | exact hp | refine List.Mem.tail _ ?_))))
    clear F9 N9
    rintro hq1 tq1 F9 N9
    repeat ((fail_if_success (with_reducible show wpAny _ _ (exec (Stmt.If (Expr.BoolOp _ _ _) _ _ _) _) _ _ _)); (first | k_extra "MyQ" | (k_unfold; (try dsimp only)) | walk1 | (dsimp only; walk1)))
    rename Fr _ _ _ _ => F9
    rename News _ _ _ _ => N9
    refine joinStay F9 N9 ?chk2 ?go2
    case chk2 =>
      k_steps
      all_goals first
        | exact absurd hl (by assumption)
        | exact notNe (x := (byteArr (encOf U S k)).toList) (by assumption)
        | (rename News _ _ _ _ => NZ; exact StayP.mk' rfl (by assumption) (cb_drop NZ (fun p hp => by repeat (first | exact hp | refine List.Mem.tail _ ?_))))
    clear F9 N9
    rintro hq1 tq1 F9 N9
    k_steps
    all_goals first
      | exact absurd hl (by assumption)
      | exact notNe (x := (byteArr (encOf U S k)).toList) (by assumption)
      | exact hret _ _ _ _ (by assumption) (newsTake 0 (by assumption)) ⟨rfl, congrArg Value.bool (beq_self_eq_true _)⟩
    ))) only [↓Box.of]
end
end
section
theorem kw_43_all : True := by
  k_with_none
  k_with "MyEnter" => (refine wpAny_call ?_; k_dflt (refine' code_defG ?k1 ?k2 ?k3 ?k4 ?k5 ?kA ?kF ?kK ?k6 ?k7 ?k8 ?k9 ?kB ?_ ?c2 ?c3 ?c4 ?c5; (case kA => exact rfl); (case kF => exact rfl); (case kK => assumption); (case k1 => k_asm); (case k2 => k_asm); (case k3 => k_asm); (case k4 => k_asm); (case k5 => k_asm); (case k6 => k_is); (case k7 => k_is); (case k8 => ktr_room); (case k9 => first | exact BindsTo.of_eq rfl | exact binds_K (by k_in) rfl (by k_is) rfl rfl rfl); (case c5 => decide); (case kB => exact locs rfl); (case c2 => exact rfl); (case c3 => exact rfl); (case c4 => exact rfl); k_whole; intro g' L' h' FG' F' N' B' X' T' kG'; (try dsimp only); (try k_lift B'); (try k_fold)))
  k_with "binaryOp FloorDiv int int" => (k_here; (with_reducible refine floordiv_int ?d0 ?_ (Or.inl ?d1)); (case d0 => first | with_reducible assumption | decide | omega); (case d1 => first | with_reducible assumption | exact PyProof.noPylong_of_log2 (by decide +kernel)))
  k_with "MyKEnter" => ((fail_if_success k_inElt); (refine' code_defC ?k1 ?k2 ?k3 ?k4 ?k5 ?kA ?kF ?kK ?k6 ?k7 ?k8 ?k9 ?kB ?kD ?_ ?c2 ?c3 ?c4; (case kA => exact rfl); (case kF => exact rfl); (case kK => exact rfl); (case k1 => k_asm); (case k2 => k_asm); (case k3 => k_asm); (case k4 => k_asm); (case k5 => k_asm); (case k6 => k_is); (case k7 => k_is); (case k8 => ktr_room); (case k9 => first | exact BindsTo.of_eq rfl | exact binds_K (by k_in) rfl (by k_is) rfl rfl rfl | fail "k_enter: no rule for these arguments"); (case kB => exact rfl); (case kD => decide +kernel); (case c2 => exact rfl); (case c3 => exact rfl); (case c4 => exact rfl); k_whole; intro g' L' h' tk' cells' FG' F' N' Y' B' X' T' l1; (try k_lt l1); k_cells Y'; (try simp only [List.cons_append, List.nil_append] at N'); (try dsimp only); (try k_lift B'); (try k_fold)))
  k_with "MyKEnter" => ((fail_if_success k_inElt); (refine' code_def ?k1 ?k2 ?k3 ?k4 ?k5 ?kA ?kF ?kK ?k6 ?k7 ?k8 ?k9 ?kB ?_ ?c2 ?c3 ?c4 ?c5; (case kA => exact rfl); (case kF => exact rfl); (case kK => exact rfl); (case k1 => k_asm); (case k2 => k_asm); (case k3 => k_asm); (case k4 => k_asm); (case k5 => k_asm); (case k6 => k_is); (case k7 => k_is); (case k8 => ktr_room); (case k9 => first | exact BindsTo.of_eq rfl | exact binds_K (by k_in) rfl (by k_is) rfl rfl rfl | fail "k_enter: no rule for these arguments"); (case c5 => decide); (case kB => exact locs rfl); (case c2 => exact rfl); (case c3 => exact rfl); (case c4 => exact rfl); k_whole; intro g' L' h' FG' F' N' B' X' T'; (try dsimp only); (try k_lift B'); (try k_fold)))
  k_with "MyPre" => first | with_reducible assumption | omega | with_reducible decide | fail "MyPre"
  k_with "execs cons" => ((fail_if_success k_inElt); first | (with_reducible refine consQ (by with_reducible assumption) (fun Q9 hQ9 => ?_)) | (with_reducible refine consQQ (fun Q8 hQ8 Q9 hQ9 => ?_)))
  k_with "execs cons" => (k_made; walk_at "execs cons")
  k_with "execs cons" => ((with_reducible show wpAny _ _ _ _ _ (Shared.mk _ _ _ (@HAdd.hAdd Nat Nat Nat _ _ _) _)); refine stGen s rfl rfl rfl (fun tk9 => ?_); (try dsimp only))
  k_with "MyQ" => ((fail_if_success (with_reducible show wpAny _ _ _ _ _ _)); (with_reducible first | refine qNext (by with_reducible assumption) ?_ | refine qRet (by with_reducible assumption) ?_ | refine qBrk (by with_reducible assumption) ?_ | refine qCont (by with_reducible assumption) ?_ | refine qGen (by with_reducible assumption) ?_); (try dsimp only))
  k_with "MyAll" => first | k_extra "MyQ" | (k_unfold; (try dsimp only)) | (k_end; kc_close) | walk1 | (dsimp only; walk1) | (leave1; walk_say "STEP leave1"; (try dsimp only)) | fail "no step"
  k_with "eval Name" => (k_here; (with_reducible show wpAny _ _ (eval (Expr.Name _ _) (envOf _ _ _ _ _)) _ _ _); k_dflt (refine' ld ?k1 ?k2 ?_ rfl (by kernel_rfl!) (by kernel_rfl!); (case k1 => k_asm); (case k2 => exact rfl); k_whole))
  k_with "MySize" => ((with_reducible show List.length (List.nil) ≤ _); exact Nat.zero_le _)
  k_with "MyKSub" => (intro p77 hp77; (repeat (first | with_reducible exact hp77 | with_reducible refine List.mem_cons_of_mem _ ?_)); done)
  trivial
section
theorem kept_bounds {d : Nat} {sg : Bool} {u : Int} : keptOf d sg u < 10 ^ d ∧ -keptOf d sg u < 10 ^ d ∧ (sg = true ∨ 0 ≤ keptOf d sg u) := by
  have p := pow_pos10 d
  unfold keptOf
  split
  · rename_i h
    have h1 := Int.emod_nonneg (-u) (show (10 : Int) ^ d ≠ 0 by omega)
    have h2 := Int.emod_lt_of_pos (-u) p
    exact ⟨by omega, by omega, .inl h.2⟩
  · have h1 := Int.emod_nonneg (if u < 0 then -u else u) (show (10 : Int) ^ d ≠ 0 by omega)
    have h2 := Int.emod_lt_of_pos (if u < 0 then -u else u) p
    exact ⟨h2, by omega, .inr h1⟩
theorem kept_kept {d : Nat} {sg : Bool} {k : Int} (h1 : k < 10 ^ d) (h2 : -k < 10 ^ d) (h3 : sg = true ∨ 0 ≤ k) : keptOf d sg k = k := by
  by_cases h : k < 0
  · have hs : sg = true := by rcases h3 with h3 | h3; exact h3; omega
    rw [keptOf_neg h hs, if_pos h, Int.emod_eq_of_lt (by omega) h2]; omega
  · rw [keptOf_pos h, if_neg h, Int.emod_eq_of_lt (by omega) h1]
theorem absDiv10 (k : Int) : (k / 10).natAbs ≤ k.natAbs := by omega
theorem subOne {n : Nat} {x : Int} (h : x ≤ n) : n + 1 - x.toNat = n - x.toNat + 1 := by omega
theorem divBack {k : Int} (h : k % 10 = 0) : k / 10 * 10 = k := by omega
theorem dueB {rs x : Int} (h : 0 ≤ rs) (h6 : rs ≤ 20) (a3 : x ≤ (rs.toNat : Int)) : x ≤ 20 ∧ x ≤ rs ∧ (0 ≤ x → (rs - x).toNat = rs.toNat - x.toNat) := by omega
theorem strip_is : ∀ (n : Nat) (k : Int), (strip k n).1 * 10 ^ (n - (strip k n).2.toNat) = k ∧ 0 ≤ (strip k n).2 ∧ (strip k n).2 ≤ n ∧ (strip k n).1.natAbs ≤ k.natAbs
  | 0, k => by
    have e : strip k 0 = (k, 0) := rfl
    rw [e]
    refine ⟨?_, by simp, by simp, Nat.le_refl _⟩
    show k * 10 ^ (0 - Int.toNat 0) = k
    simp
  | n + 1, k => by
    rw [strip]
    split
    · rename_i h
      obtain ⟨a1, a2, a3, a4⟩ := strip_is n (k / 10)
      refine ⟨?_, a2, Int.le_trans a3 (Int.ofNat_le.mpr (Nat.le_succ n)), Nat.le_trans a4 (absDiv10 k)⟩
      rw [subOne a3, Int.pow_succ, ← Int.mul_assoc, a1]
      exact divBack h
    · refine ⟨?_, by omega, by omega, Nat.le_refl _⟩
      show k * 10 ^ (n + 1 - (((n + 1 : Nat) : Int)).toNat) = k
      rw [show n + 1 - (((n + 1 : Nat) : Int)).toNat = 0 by omega]
      simp
theorem due_is {d : Nat} {rs k : Int} (hd : d ≤ 18) (h5 : -5 ≤ rs) (h6 : rs ≤ 20) (h1 : k < 10 ^ d) (h2 : -k < 10 ^ d) :
    (decOf k rs).1.natAbs < 10 ^ 30 ∧ 0 ≤ (decOf k rs).2 ∧ (decOf k rs).2 ≤ 20 ∧ unitsAt (decOf k rs).1 (decOf k rs).2 rs = k := by
  have hk : k.natAbs < 10 ^ 18 := by
    have := pow10_le hd
    have e : (10 : Int) ^ 18 = 1000000000000000000 := by decide
    omega
  unfold decOf
  split
  · rename_i h
    have p := pow_pos10 (-rs).toNat
    refine ⟨?_, Int.le_refl _, (show (0 : Int) ≤ 20 by decide), ?_⟩
    · show (k * 10 ^ (-rs).toNat).natAbs < 10 ^ 30
      rw [Int.natAbs_mul, Int.natAbs_pow]
      have q : (Int.natAbs 10) ^ (-rs).toNat ≤ 10 ^ 5 := Nat.pow_le_pow_right (by decide) (by omega)
      calc k.natAbs * Int.natAbs 10 ^ (-rs).toNat ≤ k.natAbs * 10 ^ 5 := Nat.mul_le_mul_left _ q
        _ < 10 ^ 30 := Nat.lt_of_lt_of_le (Nat.mul_lt_mul_of_pos_right hk (by decide)) (by decide)
    · show unitsAt (k * 10 ^ (-rs).toNat) 0 rs = k
      rw [unitsAt, if_neg (by omega), Int.zero_sub]
      exact Int.mul_tdiv_cancel _ (by omega)
  · rename_i h
    obtain ⟨a1, a2, a3, a4⟩ := strip_is rs.toNat k
    have b1 := dueB (Int.not_lt.mp h) h6 a3
    refine ⟨Nat.lt_of_le_of_lt a4 (Nat.lt_trans hk (by decide)), a2, b1.1, ?_⟩
    rw [unitsAt, if_pos b1.2.1, b1.2.2 a2]
    exact a1
theorem units_cut {u sc rs : Int} (h : rs ≤ sc) : unitsAt u sc rs = u.tdiv (10 ^ (sc - rs).toNat) := by
  rw [unitsAt]
  split
  · rename_i h2
    rw [show (rs - sc).toNat = 0 by omega, show (sc - rs).toNat = 0 by omega, Int.pow_zero, Int.mul_one, Int.tdiv_one]
  · rfl
theorem more_pos {u sc rs : Int} (hu : 0 ≤ u) (h : rs ≤ sc) : unitsAt (10 * u + 7) (sc + 1) rs = unitsAt u sc rs := by
  rw [units_cut h, units_cut (by omega), show (sc + 1 - rs).toNat = (sc - rs).toNat + 1 by omega, Int.pow_succ, Int.mul_comm ((10 : Int) ^ (sc - rs).toNat) 10]
  rw [Int.tdiv_eq_ediv_of_nonneg (by omega), Int.tdiv_eq_ediv_of_nonneg hu, ← Int.ediv_ediv_of_nonneg (by decide)]
  rw [show (10 * u + 7) / 10 = u by omega]
theorem more_neg {u sc rs : Int} (hu : ¬ 0 ≤ u) (h : rs ≤ sc) : unitsAt (10 * u + -7) (sc + 1) rs = unitsAt u sc rs := by
  have e : ∀ v sc : Int, unitsAt (-v) sc rs = -(unitsAt v sc rs) := fun v sc => by
    unfold unitsAt
    split
    · rw [Int.neg_mul]
    · rw [Int.neg_tdiv]
  have q := more_pos (u := -u) (sc := sc) (rs := rs) (by omega) h
  rw [show 10 * u + -7 = -(10 * (-u) + 7) by omega, e, q, e, Int.neg_neg]
end
section
variable {w : World} {mean : ExcName → Option Value} {mg mb : Str → Option Value}
theorem law_right_all (x dx : Addr) (T : ShT) (U : Us) (S : Sh) (q : Addr) (kk : Nat) (tx : Str) (u sc : Int) (t1 t2 t3 t4 t5 : Tok) (h1 : 1 ≤ S.digits) (h2 : S.digits ≤ 18) (hs : S.size = U.size S.digits) (h5 : -5 ≤ S.scale) (h6 : S.scale ≤ 20)
    (h7 : u.natAbs < 10 ^ 28) (h8 : 0 ≤ sc) (h9 : sc ≤ 15) :
    Does w mean mg mb 559 16 [.ref x, .ref q, .int u t1, .int sc t2] [(x, instObj 133 dx), (dx, dictOf (shapeEs w T U.str S) 11), (q, tupOf [.str tx t3, .int S.scale t4, .int S.digits t5, .bool S.signed] kk)] (fun nw v => nw = [] ∧ v = .bool true) := by
  have hb := kept_bounds (d := S.digits.toNat) (sg := S.signed) (u := unitsAt u sc S.scale)
  have hd := due_is (d := S.digits.toNat) (rs := S.scale) (by omega) h5 h6 hb.1 hb.2.1
  refine law_right_does x dx T U S q kk tx u sc _ t1 t2 t3 t4 t5 h1 h2 hs h5 h6 h7 h8 h9 rfl hb.1 hb.2.1 hb.2.2 (pow18 h2 hb.1 hb.2.1) hd.1 hd.2.1 hd.2.2.1 ?_ ?_ ?_ enc_In (enc_length h1 hs)
  · rw [hd.2.2.2]; exact kept_kept hb.1 hb.2.1 hb.2.2
  · exact fun a b => by rw [more_pos a b]
  · exact fun a b => by rw [more_neg a b]
end
end
section
theorem kw_50_pic : True := by
  k_with_none
  k_with "MyEnter" => (refine wpAny_call ?_; k_dflt (refine' code_defG ?k1 ?k2 ?k3 ?k4 ?k5 ?kA ?kF ?kK ?k6 ?k7 ?k8 ?k9 ?kB ?_ ?c2 ?c3 ?c4 ?c5; (case kA => exact rfl); (case kF => exact rfl); (case kK => assumption); (case k1 => k_asm); (case k2 => k_asm); (case k3 => k_asm); (case k4 => k_asm); (case k5 => k_asm); (case k6 => k_is); (case k7 => k_is); (case k8 => ktr_room); (case k9 => first | exact BindsTo.of_eq rfl | exact binds_K (by k_in) rfl (by k_is) rfl rfl rfl); (case c5 => decide); (case kB => exact locs rfl); (case c2 => exact rfl); (case c3 => exact rfl); (case c4 => exact rfl); k_whole; intro g' L' h' FG' F' N' B' X' T' kG'; (try dsimp only); (try k_lift B'); (try k_fold)))
  k_with "binaryOp FloorDiv int int" => (k_here; (with_reducible refine floordiv_int ?d0 ?_ (Or.inl ?d1)); (case d0 => first | with_reducible assumption | decide | omega); (case d1 => first | with_reducible assumption | exact PyProof.noPylong_of_log2 (by decide +kernel)))
  k_with "MyKEnter" => ((fail_if_success k_inElt); (refine' code_defC ?k1 ?k2 ?k3 ?k4 ?k5 ?kA ?kF ?kK ?k6 ?k7 ?k8 ?k9 ?kB ?kD ?_ ?c2 ?c3 ?c4; (case kA => exact rfl); (case kF => exact rfl); (case kK => exact rfl); (case k1 => k_asm); (case k2 => k_asm); (case k3 => k_asm); (case k4 => k_asm); (case k5 => k_asm); (case k6 => k_is); (case k7 => k_is); (case k8 => ktr_room); (case k9 => first | exact BindsTo.of_eq rfl | exact binds_K (by k_in) rfl (by k_is) rfl rfl rfl | fail "k_enter: no rule for these arguments"); (case kB => exact rfl); (case kD => decide +kernel); (case c2 => exact rfl); (case c3 => exact rfl); (case c4 => exact rfl); k_whole; intro g' L' h' tk' cells' FG' F' N' Y' B' X' T' l1; (try k_lt l1); k_cells Y'; (try simp only [List.cons_append, List.nil_append] at N'); (try dsimp only); (try k_lift B'); (try k_fold)))
  k_with "MyKEnter" => ((fail_if_success k_inElt); (refine' code_def ?k1 ?k2 ?k3 ?k4 ?k5 ?kA ?kF ?kK ?k6 ?k7 ?k8 ?k9 ?kB ?_ ?c2 ?c3 ?c4 ?c5; (case kA => exact rfl); (case kF => exact rfl); (case kK => exact rfl); (case k1 => k_asm); (case k2 => k_asm); (case k3 => k_asm); (case k4 => k_asm); (case k5 => k_asm); (case k6 => k_is); (case k7 => k_is); (case k8 => ktr_room); (case k9 => first | exact BindsTo.of_eq rfl | exact binds_K (by k_in) rfl (by k_is) rfl rfl rfl | fail "k_enter: no rule for these arguments"); (case c5 => decide); (case kB => exact locs rfl); (case c2 => exact rfl); (case c3 => exact rfl); (case c4 => exact rfl); k_whole; intro g' L' h' FG' F' N' B' X' T'; (try dsimp only); (try k_lift B'); (try k_fold)))
  k_with "MyPre" => first | with_reducible assumption | omega | with_reducible decide | fail "MyPre"
  k_with "execs cons" => ((fail_if_success k_inElt); first | (with_reducible refine consQ (by with_reducible assumption) (fun Q9 hQ9 => ?_)) | (with_reducible refine consQQ (fun Q8 hQ8 Q9 hQ9 => ?_)))
  k_with "execs cons" => (k_made; walk_at "execs cons")
  k_with "execs cons" => ((with_reducible show wpAny _ _ _ _ _ (Shared.mk _ _ _ (@HAdd.hAdd Nat Nat Nat _ _ _) _)); refine stGen s rfl rfl rfl (fun tk9 => ?_); (try dsimp only))
  k_with "MyQ" => ((fail_if_success (with_reducible show wpAny _ _ _ _ _ _)); (with_reducible first | refine qNext (by with_reducible assumption) ?_ | refine qRet (by with_reducible assumption) ?_ | refine qBrk (by with_reducible assumption) ?_ | refine qCont (by with_reducible assumption) ?_ | refine qGen (by with_reducible assumption) ?_); (try dsimp only))
  k_with "MyAll" => first | k_extra "MyQ" | (k_unfold; (try dsimp only)) | (k_end; kc_close) | walk1 | (dsimp only; walk1) | (leave1; walk_say "STEP leave1"; (try dsimp only)) | fail "no step"
  k_with "eval Name" => (k_here; (with_reducible show wpAny _ _ (eval (Expr.Name _ _) (envOf _ _ _ _ _)) _ _ _); k_dflt (refine' ld ?k1 ?k2 ?_ rfl (by kernel_rfl!) (by kernel_rfl!); (case k1 => k_asm); (case k2 => exact rfl); k_whole))
  k_with "MySize" => ((with_reducible show List.length (List.nil) ≤ _); exact Nat.zero_le _)
  k_with "MyKSub" => (intro p77 hp77; (repeat (first | with_reducible exact hp77 | with_reducible refine List.mem_cons_of_mem _ ?_)); done)
  trivial
/-- a picture's fields, as __init__ lays them -/
structure PcT where
  (k0 k1 k2 k3 k4 k5 k6 tt tc td tl tz : Tok)
structure Pc where
  (text : Str) (syms : Addr) (digits : Int) (scale : Int) (signed : Bool) (size : Int)
noncomputable def picEs (w : World) (T : PcT) (P : Pc) : List DictEntry :=
  [⟨PyData.keyHash w.params (Str.ofString "text"), .str (Str.ofString "text") T.k0, .str P.text T.tt⟩,
   ⟨PyData.keyHash w.params (Str.ofString "symbols"), .str (Str.ofString "symbols") T.k1, .ref P.syms⟩,
   ⟨PyData.keyHash w.params (Str.ofString "category"), .str (Str.ofString "category") T.k2, .str (Str.ofString "numeric") T.tc⟩,
   ⟨PyData.keyHash w.params (Str.ofString "digits"), .str (Str.ofString "digits") T.k3, .int P.digits T.td⟩,
   ⟨PyData.keyHash w.params (Str.ofString "scale"), .str (Str.ofString "scale") T.k4, .int P.scale T.tl⟩,
   ⟨PyData.keyHash w.params (Str.ofString "is_signed"), .str (Str.ofString "is_signed") T.k5, .bool P.signed⟩,
   ⟨PyData.keyHash w.params (Str.ofString "size"), .str (Str.ofString "size") T.k6, .int P.size T.tz⟩]
end
section
theorem kw_51_comp : True := by
  k_with_none
  k_with "MyEnter" => (refine wpAny_call ?_; k_dflt (refine' code_defG ?k1 ?k2 ?k3 ?k4 ?k5 ?kA ?kF ?kK ?k6 ?k7 ?k8 ?k9 ?kB ?_ ?c2 ?c3 ?c4 ?c5; (case kA => exact rfl); (case kF => exact rfl); (case kK => assumption); (case k1 => k_asm); (case k2 => k_asm); (case k3 => k_asm); (case k4 => k_asm); (case k5 => k_asm); (case k6 => k_is); (case k7 => k_is); (case k8 => ktr_room); (case k9 => first | exact BindsTo.of_eq rfl | exact binds_K (by k_in) rfl (by k_is) rfl rfl rfl); (case c5 => decide); (case kB => exact locs rfl); (case c2 => exact rfl); (case c3 => exact rfl); (case c4 => exact rfl); k_whole; intro g' L' h' FG' F' N' B' X' T' kG'; (try dsimp only); (try k_lift B'); (try k_fold)))
  k_with "binaryOp FloorDiv int int" => (k_here; (with_reducible refine floordiv_int ?d0 ?_ (Or.inl ?d1)); (case d0 => first | with_reducible assumption | decide | omega); (case d1 => first | with_reducible assumption | exact PyProof.noPylong_of_log2 (by decide +kernel)))
  k_with "MyKEnter" => ((fail_if_success k_inElt); (refine' code_defC ?k1 ?k2 ?k3 ?k4 ?k5 ?kA ?kF ?kK ?k6 ?k7 ?k8 ?k9 ?kB ?kD ?_ ?c2 ?c3 ?c4; (case kA => exact rfl); (case kF => exact rfl); (case kK => exact rfl); (case k1 => k_asm); (case k2 => k_asm); (case k3 => k_asm); (case k4 => k_asm); (case k5 => k_asm); (case k6 => k_is); (case k7 => k_is); (case k8 => ktr_room); (case k9 => first | exact BindsTo.of_eq rfl | exact binds_K (by k_in) rfl (by k_is) rfl rfl rfl | fail "k_enter: no rule for these arguments"); (case kB => exact rfl); (case kD => decide +kernel); (case c2 => exact rfl); (case c3 => exact rfl); (case c4 => exact rfl); k_whole; intro g' L' h' tk' cells' FG' F' N' Y' B' X' T' l1; (try k_lt l1); k_cells Y'; (try simp only [List.cons_append, List.nil_append] at N'); (try dsimp only); (try k_lift B'); (try k_fold)))
  k_with "MyKEnter" => ((fail_if_success k_inElt); (refine' code_def ?k1 ?k2 ?k3 ?k4 ?k5 ?kA ?kF ?kK ?k6 ?k7 ?k8 ?k9 ?kB ?_ ?c2 ?c3 ?c4 ?c5; (case kA => exact rfl); (case kF => exact rfl); (case kK => exact rfl); (case k1 => k_asm); (case k2 => k_asm); (case k3 => k_asm); (case k4 => k_asm); (case k5 => k_asm); (case k6 => k_is); (case k7 => k_is); (case k8 => ktr_room); (case k9 => first | exact BindsTo.of_eq rfl | exact binds_K (by k_in) rfl (by k_is) rfl rfl rfl | fail "k_enter: no rule for these arguments"); (case c5 => decide); (case kB => exact locs rfl); (case c2 => exact rfl); (case c3 => exact rfl); (case c4 => exact rfl); k_whole; intro g' L' h' FG' F' N' B' X' T'; (try dsimp only); (try k_lift B'); (try k_fold)))
  k_with "MyPre" => first | with_reducible assumption | omega | with_reducible decide | fail "MyPre"
  k_with "execs cons" => ((fail_if_success k_inElt); first | (with_reducible refine consQ (by with_reducible assumption) (fun Q9 hQ9 => ?_)) | (with_reducible refine consQQ (fun Q8 hQ8 Q9 hQ9 => ?_)))
  k_with "execs cons" => (k_made; walk_at "execs cons")
  k_with "execs cons" => ((with_reducible show wpAny _ _ _ _ _ (Shared.mk _ _ _ (@HAdd.hAdd Nat Nat Nat _ _ _) _)); refine stGen s rfl rfl rfl (fun tk9 => ?_); (try dsimp only))
  k_with "MyQ" => ((fail_if_success (with_reducible show wpAny _ _ _ _ _ _)); (with_reducible first | refine qNext (by with_reducible assumption) ?_ | refine qRet (by with_reducible assumption) ?_ | refine qBrk (by with_reducible assumption) ?_ | refine qCont (by with_reducible assumption) ?_ | refine qGen (by with_reducible assumption) ?_); (try dsimp only))
  k_with "MyAll" => first | k_extra "MyQ" | (k_unfold; (try dsimp only)) | (k_end; kc_close) | walk1 | (dsimp only; walk1) | (leave1; walk_say "STEP leave1"; (try dsimp only)) | fail "no step"
  k_with "eval Name" => (k_here; (with_reducible show wpAny _ _ (eval (Expr.Name _ _) (envOf _ _ _ _ _)) _ _ _); k_dflt (refine' ld ?k1 ?k2 ?_ rfl (by kernel_rfl!) (by kernel_rfl!); (case k1 => k_asm); (case k2 => exact rfl); k_whole))
  k_with "MySize" => ((with_reducible show List.length (List.nil) ≤ _); exact Nat.zero_le _)
  k_with "MyKSub" => (intro p77 hp77; (repeat (first | with_reducible exact hp77 | with_reducible refine List.mem_cons_of_mem _ ?_)); done)
  trivial
section
open PySem.Calls PyProof PySem.Spec
variable {prog : Program} {w : World} {A : Around} {E : Value → Shared → Prop} {s : Shared} {h₀ : Heap} {L : Addr} {m : Str → Option Value} {env : Env}
/-- a list comprehension over a text -/
theorem comp_str {elt iter : Expr} {x : Str} {px : Pos} {ifs : List Expr} {scope : Scope} {cl : List (Str × Addr)} {pos : Pos} {Q : Value → Shared → Prop} (pz : Str → Bool) (d : Str → PyData)
    (hh : A.handled = none) (hclos : closureFor scope env = pure cl) (hcell : ∀ y ∈ scope.names, y.2 ≠ .cell) (hkind : scope.kind = .function)
    (hnames : ∀ y ∈ scope.names, y.2 = .local → scope.names.lookup y.1 = some .local) (hx : scope.names.lookup x = some .local)
    (h : wpAny (model prog w) A (eval iter env) (fun xv s₁ => ∃ news : List (Addr × Obj), ∃ y tb, xv = .str y tb ∧ y.length ≤ sizeLine ∧ Fr h₀ L s₁.heap m ∧ News h₀ L s₁.heap news ∧
      (∀ C a v s₂ m₂ E', s₁.heap.objs.size ≤ C → a ∈ signs y → ItemKind.str.is a v → s₂.heap.Ns (compEnvC scope cl C env).locals m₂ → m₂ x = some v → (∀ b o, s₁.heap.get? b = some o → s₂.heap.get? b = some o) →
        wpAny (model prog w) A (forIn ifs true fun c r => if r = true then do let ok ← isTrue c (compEnvC scope cl C env) (eval c (compEnvC scope cl C env)); pure (ForInStep.yield ok) else pure (ForInStep.yield r))
          (fun ok s₃ => ok = pz a ∧ Keeps s₂ s₃) E' s₂) ∧
      (∀ C a v s₂ m₂ E', s₁.heap.objs.size ≤ C → a ∈ signs y → ItemKind.str.is a v → pz a = true → s₂.heap.Ns (compEnvC scope cl C env).locals m₂ → m₂ x = some v → (∀ b o, s₁.heap.get? b = some o → s₂.heap.get? b = some o) →
        wpAny (model prog w) A (eval elt (compEnvC scope cl C env)) (fun y s₃ => Carried y (d a) ∧ Keeps s₂ s₃) E' s₂) ∧
      (∀ D (ys : List Value) h' tk, Fr h₀ L h' m → News h₀ L h' news → h₀.get? D = none → h'.IsList D ys.toArray → NewPlain h' news D ys.toArray → CarriedAll ys (((signs y).filter pz).map d) → Q (.ref D) { s₁ with heap := h', toks := tk })) E s)
    (hs : ∀ x, foldedSetIterable iter env x = pure x) :
    wpAny (model prog w) A (eval (.ListComp elt [⟨.Name x px, iter, ifs, 0⟩] scope pos) env) Q E s := by
  refine wpAny_ListComp_free (ItemKind.str.lift pz) (fun v y => ∃ a, ItemKind.str.is a v ∧ Carried y (d a)) hclos hcell hkind hnames hx (wpAny_mono h (fun xv s₁ h₁ => ?_) fun _ _ e => e) hs
  obtain ⟨news, y, tb, rfl, hsz, F, N, htests, helt, hQ⟩ := h₁
  refine wpAny_pyIter_str fun o St W hst => ?_
  have hval : ∀ (i : Nat) v, SignAt y i v → ∃ a, (signs y)[i]? = some a ∧ ItemKind.str.is a v := by
    rintro i v ⟨c, u, hc, rfl⟩
    exact ⟨⟨#[c]⟩, by simp [signs, hc], u, rfl⟩
  have up : ∀ (h' : Heap), (∀ b' o', b' ∉ [s₁.heap.objs.size] → (s₁.heap.push o).get? b' = some o' → h'.get? b' = some o') → ∀ b' o', s₁.heap.get? b' = some o' → h'.get? b' = some o' :=
    fun h' hk b' o' e => hk b' o' (fun hm => by rcases List.mem_cons.mp hm with rfl | hm; exact Nat.lt_irrefl _ (Heap.lt_size e); cases hm) (Heap.get?_push_of_some _ e)
  refine ⟨s₁.heap.objs.size, [s₁.heap.objs.size], [s₁.heap.objs.size], y.cps.size, _, _, rfl, W _ hh, hsz, hst, ?_, ⟨?_, ?_⟩, ?_⟩
  · intro b' hb
    show b' < (s₁.heap.push _).objs.size
    rw [Heap.size_push]
    rcases List.mem_cons.mp hb with rfl | hb
    · exact Nat.lt_succ_self _
    · cases hb
  · intro C i v s₃ m₃ E' hC hP hn' hm hk _
    obtain ⟨a, ha1, ha⟩ := hval i v hP
    rw [ItemKind.lift_is ha]
    exact htests C _ v s₃ m₃ E' (Nat.le_of_succ_le (by simpa [Heap.size_push] using hC)) (List.mem_of_getElem? ha1) ha hn' hm (up _ hk)
  · intro C i v s₃ m₃ E' hC hP hp hn' hm hk _
    obtain ⟨a, ha1, ha⟩ := hval i v hP
    rw [ItemKind.lift_is ha] at hp
    exact wpAny_mono (helt C _ v s₃ m₃ E' (Nat.le_of_succ_le (by simpa [Heap.size_push] using hC)) (List.mem_of_getElem? ha1) ha hp hn' hm (up _ hk)) (fun y s₄ h₄ => ⟨⟨_, ha, h₄.1⟩, h₄.2⟩) fun _ _ e => e
  · intro D h' tk ys vs' hnew hlD hplD hlen hP hF hk
    have hi : AreOf .str vs' (signs y) := AreOf.of_get (hlen.trans (signs_length y).symm) fun j v hv => hval j v (hP j v hv)
    have keep := up h' hk
    refine hQ D ys.toList h' tk (F.keeps keep) (N.grown keep) ?_ (by rw [Array.toArray_toList]; exact hlD) ⟨by rw [Array.toArray_toList]; exact hplD, fun p hp e => by rw [← e, Heap.get?_push_of_some _ (N p hp).1] at hnew; cases hnew⟩ (hi.paired pz d _ hF)
    cases e : h₀.get? D with
    | none => rfl
    | some o' => rw [Heap.get?_push_of_some _ (F.keep _ _ e)] at hnew; cases hnew
end
end
section
theorem kw_52_sg : True := by
  k_with_none
  k_with "MyEnter" => (refine wpAny_call ?_; k_dflt (refine' code_defG ?k1 ?k2 ?k3 ?k4 ?k5 ?kA ?kF ?kK ?k6 ?k7 ?k8 ?k9 ?kB ?_ ?c2 ?c3 ?c4 ?c5; (case kA => exact rfl); (case kF => exact rfl); (case kK => assumption); (case k1 => k_asm); (case k2 => k_asm); (case k3 => k_asm); (case k4 => k_asm); (case k5 => k_asm); (case k6 => k_is); (case k7 => k_is); (case k8 => ktr_room); (case k9 => first | exact BindsTo.of_eq rfl | exact binds_K (by k_in) rfl (by k_is) rfl rfl rfl); (case c5 => decide); (case kB => exact locs rfl); (case c2 => exact rfl); (case c3 => exact rfl); (case c4 => exact rfl); k_whole; intro g' L' h' FG' F' N' B' X' T' kG'; (try dsimp only); (try k_lift B'); (try k_fold)))
  k_with "binaryOp FloorDiv int int" => (k_here; (with_reducible refine floordiv_int ?d0 ?_ (Or.inl ?d1)); (case d0 => first | with_reducible assumption | decide | omega); (case d1 => first | with_reducible assumption | exact PyProof.noPylong_of_log2 (by decide +kernel)))
  k_with "MyKEnter" => ((fail_if_success k_inElt); (refine' code_defC ?k1 ?k2 ?k3 ?k4 ?k5 ?kA ?kF ?kK ?k6 ?k7 ?k8 ?k9 ?kB ?kD ?_ ?c2 ?c3 ?c4; (case kA => exact rfl); (case kF => exact rfl); (case kK => exact rfl); (case k1 => k_asm); (case k2 => k_asm); (case k3 => k_asm); (case k4 => k_asm); (case k5 => k_asm); (case k6 => k_is); (case k7 => k_is); (case k8 => ktr_room); (case k9 => first | exact BindsTo.of_eq rfl | exact binds_K (by k_in) rfl (by k_is) rfl rfl rfl | fail "k_enter: no rule for these arguments"); (case kB => exact rfl); (case kD => decide +kernel); (case c2 => exact rfl); (case c3 => exact rfl); (case c4 => exact rfl); k_whole; intro g' L' h' tk' cells' FG' F' N' Y' B' X' T' l1; (try k_lt l1); k_cells Y'; (try simp only [List.cons_append, List.nil_append] at N'); (try dsimp only); (try k_lift B'); (try k_fold)))
  k_with "MyKEnter" => ((fail_if_success k_inElt); (refine' code_def ?k1 ?k2 ?k3 ?k4 ?k5 ?kA ?kF ?kK ?k6 ?k7 ?k8 ?k9 ?kB ?_ ?c2 ?c3 ?c4 ?c5; (case kA => exact rfl); (case kF => exact rfl); (case kK => exact rfl); (case k1 => k_asm); (case k2 => k_asm); (case k3 => k_asm); (case k4 => k_asm); (case k5 => k_asm); (case k6 => k_is); (case k7 => k_is); (case k8 => ktr_room); (case k9 => first | exact BindsTo.of_eq rfl | exact binds_K (by k_in) rfl (by k_is) rfl rfl rfl | fail "k_enter: no rule for these arguments"); (case c5 => decide); (case kB => exact locs rfl); (case c2 => exact rfl); (case c3 => exact rfl); (case c4 => exact rfl); k_whole; intro g' L' h' FG' F' N' B' X' T'; (try dsimp only); (try k_lift B'); (try k_fold)))
  k_with "MyPre" => first | with_reducible assumption | omega | with_reducible decide | fail "MyPre"
  k_with "execs cons" => ((fail_if_success k_inElt); first | (with_reducible refine consQ (by with_reducible assumption) (fun Q9 hQ9 => ?_)) | (with_reducible refine consQQ (fun Q8 hQ8 Q9 hQ9 => ?_)))
  k_with "execs cons" => (k_made; walk_at "execs cons")
  k_with "execs cons" => ((with_reducible show wpAny _ _ _ _ _ (Shared.mk _ _ _ (@HAdd.hAdd Nat Nat Nat _ _ _) _)); refine stGen s rfl rfl rfl (fun tk9 => ?_); (try dsimp only))
  k_with "MyQ" => ((fail_if_success (with_reducible show wpAny _ _ _ _ _ _)); (with_reducible first | refine qNext (by with_reducible assumption) ?_ | refine qRet (by with_reducible assumption) ?_ | refine qBrk (by with_reducible assumption) ?_ | refine qCont (by with_reducible assumption) ?_ | refine qGen (by with_reducible assumption) ?_); (try dsimp only))
  k_with "MyAll" => first | k_extra "MyQ" | (k_unfold; (try dsimp only)) | (k_end; kc_close) | walk1 | (dsimp only; walk1) | (leave1; walk_say "STEP leave1"; (try dsimp only)) | fail "no step"
  k_with "eval Name" => (k_here; (with_reducible show wpAny _ _ (eval (Expr.Name _ _) (envOf _ _ _ _ _)) _ _ _); k_dflt (refine' ld ?k1 ?k2 ?_ rfl (by kernel_rfl!) (by kernel_rfl!); (case k1 => k_asm); (case k2 => exact rfl); k_whole))
  k_with "MySize" => ((with_reducible show List.length (List.nil) ≤ _); exact Nat.zero_le _)
  k_with "MyKSub" => (intro p77 hp77; (repeat (first | with_reducible exact hp77 | with_reducible refine List.mem_cons_of_mem _ ?_)); done)
  trivial
/-- what sign_at asks of a place -/
structure SgF (y : Str) (i : Int) (c : Str) : Prop where
  low : 0 ≤ i
  high : i < (y.length : Int)
  len : y.length ≤ 40
  item : Txt.item y i = c
  two : ([Str.ofString "CR", Str.ofString "DB"].any fun x => x == Txt.slice y (some i) (some (i + 2))) = false
  inn : (Builtin.Str.occurrences (Str.ofString "ABPSVXZ90/,.+-*$") (Txt.item y i) 0 (Str.ofString "ABPSVXZ90/,.+-*$").length 1).isEmpty = false
theorem ff {b : Bool} {P : Prop} (h1 : b = true) (h2 : b = false) : P := by rw [h1] at h2; cases h2
section
variable {w : World} {mean : ExcName → Option Value} {mg mb : Str → Option Value}
theorem sign_at_does (y : Str) (i : Int) (c : Str) (t tt : Tok) (h : SgF y i c) :
    Does w mean mg mb 359 1 [.str y t, .int i tt] [] (fun nw v => nw = [] ∧ ∃ t', v = .str c t') := by
  refine unBox ?_
  simp (zetaDelta := true) (disch := (k_dflt (
    refine inBox ?_
    obtain ⟨h1, h2, h6, h3, h4, h5⟩ := h
    intro dp un gd cn cs a ccd cl outer A₀ base h₀ L' m s Q E B F X N T hk hd hu hret
    have cE := InElt.start s.heap
    walk_at "MyEnter"
    k_steps
    subst h3
    exact hret _ _ _ _ (by assumption) (newsTake 0 (by assumption)) ⟨rfl, _, rfl⟩
    ))) only [↓Box.of]
theorem count_plain_does (y : Str) (i : Int) (t tt : Tok) (hl : y.length ≤ 40) (h : (Txt.slice y (some i) (some (i + 1)) != Str.ofString "(") = true) (h1 : 0 ≤ i) (h2 : i ≤ 40) :
    Does w mean mg mb 364 1 [.str y t, .int i tt] [] (fun nw v => ∃ r t1 t2, nw = [(r, tupOf [.int 1 t1, .int i t2] 0)] ∧ v = .ref r) := by
  refine unBox ?_
  simp (zetaDelta := true) (disch := (k_dflt (
    refine inBox ?_
    intro dp un gd cn cs a ccd cl outer A₀ base h₀ L' m s Q E B F X N T hk hd hu hret
    have cE := InElt.start s.heap
    walk_at "MyEnter"
    k_steps
    exact hret _ _ _ _ (by assumption) (newsTake 1 (by assumption)) ⟨_, _, _, rfl, rfl⟩
    ))) only [↓Box.of]
end
end
section
theorem kw_53_ct : True := by
  k_with_none
  k_with "MyEnter" => (refine wpAny_call ?_; k_dflt (refine' code_defG ?k1 ?k2 ?k3 ?k4 ?k5 ?kA ?kF ?kK ?k6 ?k7 ?k8 ?k9 ?kB ?_ ?c2 ?c3 ?c4 ?c5; (case kA => exact rfl); (case kF => exact rfl); (case kK => assumption); (case k1 => k_asm); (case k2 => k_asm); (case k3 => k_asm); (case k4 => k_asm); (case k5 => k_asm); (case k6 => k_is); (case k7 => k_is); (case k8 => ktr_room); (case k9 => first | exact BindsTo.of_eq rfl | exact binds_K (by k_in) rfl (by k_is) rfl rfl rfl); (case c5 => decide); (case kB => exact locs rfl); (case c2 => exact rfl); (case c3 => exact rfl); (case c4 => exact rfl); k_whole; intro g' L' h' FG' F' N' B' X' T' kG'; (try dsimp only); (try k_lift B'); (try k_fold)))
  k_with "binaryOp FloorDiv int int" => (k_here; (with_reducible refine floordiv_int ?d0 ?_ (Or.inl ?d1)); (case d0 => first | with_reducible assumption | decide | omega); (case d1 => first | with_reducible assumption | exact PyProof.noPylong_of_log2 (by decide +kernel)))
  k_with "MyKEnter" => ((fail_if_success k_inElt); (refine' code_defC ?k1 ?k2 ?k3 ?k4 ?k5 ?kA ?kF ?kK ?k6 ?k7 ?k8 ?k9 ?kB ?kD ?_ ?c2 ?c3 ?c4; (case kA => exact rfl); (case kF => exact rfl); (case kK => exact rfl); (case k1 => k_asm); (case k2 => k_asm); (case k3 => k_asm); (case k4 => k_asm); (case k5 => k_asm); (case k6 => k_is); (case k7 => k_is); (case k8 => ktr_room); (case k9 => first | exact BindsTo.of_eq rfl | exact binds_K (by k_in) rfl (by k_is) rfl rfl rfl | fail "k_enter: no rule for these arguments"); (case kB => exact rfl); (case kD => decide +kernel); (case c2 => exact rfl); (case c3 => exact rfl); (case c4 => exact rfl); k_whole; intro g' L' h' tk' cells' FG' F' N' Y' B' X' T' l1; (try k_lt l1); k_cells Y'; (try simp only [List.cons_append, List.nil_append] at N'); (try dsimp only); (try k_lift B'); (try k_fold)))
  k_with "MyKEnter" => ((fail_if_success k_inElt); (refine' code_def ?k1 ?k2 ?k3 ?k4 ?k5 ?kA ?kF ?kK ?k6 ?k7 ?k8 ?k9 ?kB ?_ ?c2 ?c3 ?c4 ?c5; (case kA => exact rfl); (case kF => exact rfl); (case kK => exact rfl); (case k1 => k_asm); (case k2 => k_asm); (case k3 => k_asm); (case k4 => k_asm); (case k5 => k_asm); (case k6 => k_is); (case k7 => k_is); (case k8 => ktr_room); (case k9 => first | exact BindsTo.of_eq rfl | exact binds_K (by k_in) rfl (by k_is) rfl rfl rfl | fail "k_enter: no rule for these arguments"); (case c5 => decide); (case kB => exact locs rfl); (case c2 => exact rfl); (case c3 => exact rfl); (case c4 => exact rfl); k_whole; intro g' L' h' FG' F' N' B' X' T'; (try dsimp only); (try k_lift B'); (try k_fold)))
  k_with "MyPre" => first | with_reducible assumption | omega | with_reducible decide | fail "MyPre"
  k_with "execs cons" => ((fail_if_success k_inElt); first | (with_reducible refine consQ (by with_reducible assumption) (fun Q9 hQ9 => ?_)) | (with_reducible refine consQQ (fun Q8 hQ8 Q9 hQ9 => ?_)))
  k_with "execs cons" => (k_made; walk_at "execs cons")
  k_with "execs cons" => ((with_reducible show wpAny _ _ _ _ _ (Shared.mk _ _ _ (@HAdd.hAdd Nat Nat Nat _ _ _) _)); refine stGen s rfl rfl rfl (fun tk9 => ?_); (try dsimp only))
  k_with "MyQ" => ((fail_if_success (with_reducible show wpAny _ _ _ _ _ _)); (with_reducible first | refine qNext (by with_reducible assumption) ?_ | refine qRet (by with_reducible assumption) ?_ | refine qBrk (by with_reducible assumption) ?_ | refine qCont (by with_reducible assumption) ?_ | refine qGen (by with_reducible assumption) ?_); (try dsimp only))
  k_with "MyAll" => first | k_extra "MyQ" | (k_unfold; (try dsimp only)) | (k_end; kc_close) | walk1 | (dsimp only; walk1) | (leave1; walk_say "STEP leave1"; (try dsimp only)) | fail "no step"
  k_with "eval Name" => (k_here; (with_reducible show wpAny _ _ (eval (Expr.Name _ _) (envOf _ _ _ _ _)) _ _ _); k_dflt (refine' ld ?k1 ?k2 ?_ rfl (by kernel_rfl!) (by kernel_rfl!); (case k1 => k_asm); (case k2 => exact rfl); k_whole))
  k_with "MySize" => ((with_reducible show List.length (List.nil) ≤ _); exact Nat.zero_le _)
  k_with "MyKSub" => (intro p77 hp77; (repeat (first | with_reducible exact hp77 | with_reducible refine List.mem_cons_of_mem _ ?_)); done)
  trivial
noncomputable abbrev endOf (y : Str) (i : Int) : Int := Txt.find3 y (Str.ofString ")") i
noncomputable abbrev figOf (y : Str) (i : Int) : Str := Txt.slice y (some (i + 1)) (some (if i > endOf y i then i else endOf y i))
structure CtF (y : Str) (i n e : Int) : Prop where
  len : y.length ≤ 40
  open_ : (Txt.slice y (some i) (some (i + 1)) != Str.ofString "(") = false
  low : 0 ≤ i
  high : i ≤ 40
  val : PySem.intText? (figOf y i) = some n
  n0 : n ≠ 0
  end_ : endOf y i + 1 = e
  long : (figOf y i).length ≤ 640
  f1 : (1 : Int) ≤ ((figOf y i).length : Int)
  f2 : ((figOf y i).length : Int) ≤ 4
  all : ∀ a ∈ signs (figOf y i), (Builtin.Str.occurrences (Str.ofString "0123456789") a 0 (Str.ofString "0123456789").length 1).isEmpty = false
theorem noneLeft {ys : List Value} {y : Str} (h : CarriedAll ys (List.map (fun a => PyData.str a) (List.filter (fun _ => false) (signs y)))) : ys = [] := by
  rw [List.filter_eq_nil_iff.mpr (fun _ _ => Bool.false_ne_true)] at h
  cases h; rfl
theorem kw_53_ct_a : True := by
  k_with "StrPack" => (k_dflt ((refine RangePack.intro ?_); (with_reducible rename Fr _ _ _ _ => F9); (with_reducible rename News _ _ _ _ => N9); (with_reducible rename (∀ a ∈ signs _, _) => hall9); (refine' ⟨_, _, _, rfl, (by rw [PySem.sizeLine_eq]; omega), F9, N9, ?g1, ?g2, ?g3⟩); (case g2 => (intro C a v s₂ m₂ E' hC ha hK hz; cases hz)); (case' g3 => (intro D9 ys9 h9 tk9 F8 N8 hD9 hl9 hP9 hC9; have e9 := noneLeft hC9; subst e9; clear hC9)); (case' g1 => (intro C a v s₂ m₂ E' hC ha hK hn hm hk; obtain ⟨t9, e9⟩ := hK; subst e9; have hin9 := hall9 _ ha; have F8 := frInComp hn hk hC; (try (((with_reducible refine wpAny_leafK ?_); (try (first | ((with_reducible refine markB ?_); intro _) | ((with_reducible refine markD ?_); intro _))))))))))
  k_with "eval ListComp" => (k_dflt (k_here; (with_reducible apply comp_str (fun _ => false) (fun a => PyData.str a)); (case hh => with_unfolding_all rfl); (case hclos => with_unfolding_all rfl); (case hcell => decide); (case hkind => with_unfolding_all rfl); (case hnames => decide); (case hx => with_unfolding_all rfl); (case hs => intro _; with_unfolding_all rfl); (case' h => with_reducible refine wpAny_rangePack ?_)))
  k_with "SeqLeaf" => (k_dflt (refine SeqLeaf.intro ⟨by rw [Bool.not_not]; with_reducible assumption, _, _, rfl, fun _ _ e => e⟩))
  k_with "newList" => (k_dflt (k_here; (with_reducible show wpAny _ _ (newList []) _ _ _); (first | gn_on | (k_dflt (refine' newList_K (hsz := Nat.zero_le _) ?k1 ?k2 ?_; (case k1 => k_asm); (case k2 => k_asm); k_whole); intro l53 h53 F53 N53 q53; (try k_lt q53); (try k_sweep)))))
  k_with "RangePack" => walk_at "StrPack"
  trivial
section
variable {w : World} {mean : ExcName → Option Value} {mg mb : Str → Option Value}
theorem count_paren_does (y : Str) (i n e : Int) (t tt : Tok) (h : CtF y i n e) :
    Does w mean mg mb 364 10 [.str y t, .int i tt] [] (fun nw v => ∃ r t1 t2, nw = [(r, tupOf [.int n t1, .int e t2] 0)] ∧ v = .ref r) := by
  refine unBox ?_
  simp (zetaDelta := true) (disch := (k_dflt (
    refine inBox ?_
    obtain ⟨h1, h2, h3, h4, h8, hn0, h10, h11, h5, h6, h7⟩ := h
    dsimp only [figOf, endOf] at h5 h6 h7 h8 h10 h11 ⊢
    intro dp un gd cn cs a ccd cl outer A₀ base h₀ L' m s Q E B F X N T hk hd hu hret
    have cE := InElt.start s.heap
    walk_at "MyEnter"
    k_steps
    · exact absurd (by assumption) hn0
    · subst h10
      exact hret _ _ _ _ (by assumption) (newsTake 1 (by assumption)) ⟨_, _, _, rfl, rfl⟩
    ))) only [↓Box.of]
end
end
section
theorem kw_54_up : True := by
  k_with_none
  k_with "MyEnter" => (refine wpAny_call ?_; k_dflt (refine' code_defG ?k1 ?k2 ?k3 ?k4 ?k5 ?kA ?kF ?kK ?k6 ?k7 ?k8 ?k9 ?kB ?_ ?c2 ?c3 ?c4 ?c5; (case kA => exact rfl); (case kF => exact rfl); (case kK => assumption); (case k1 => k_asm); (case k2 => k_asm); (case k3 => k_asm); (case k4 => k_asm); (case k5 => k_asm); (case k6 => k_is); (case k7 => k_is); (case k8 => ktr_room); (case k9 => first | exact BindsTo.of_eq rfl | exact binds_K (by k_in) rfl (by k_is) rfl rfl rfl); (case c5 => decide); (case kB => exact locs rfl); (case c2 => exact rfl); (case c3 => exact rfl); (case c4 => exact rfl); k_whole; intro g' L' h' FG' F' N' B' X' T' kG'; (try dsimp only); (try k_lift B'); (try k_fold)))
  k_with "binaryOp FloorDiv int int" => (k_here; (with_reducible refine floordiv_int ?d0 ?_ (Or.inl ?d1)); (case d0 => first | with_reducible assumption | decide | omega); (case d1 => first | with_reducible assumption | exact PyProof.noPylong_of_log2 (by decide +kernel)))
  k_with "MyKEnter" => ((fail_if_success k_inElt); (refine' code_defC ?k1 ?k2 ?k3 ?k4 ?k5 ?kA ?kF ?kK ?k6 ?k7 ?k8 ?k9 ?kB ?kD ?_ ?c2 ?c3 ?c4; (case kA => exact rfl); (case kF => exact rfl); (case kK => exact rfl); (case k1 => k_asm); (case k2 => k_asm); (case k3 => k_asm); (case k4 => k_asm); (case k5 => k_asm); (case k6 => k_is); (case k7 => k_is); (case k8 => ktr_room); (case k9 => first | exact BindsTo.of_eq rfl | exact binds_K (by k_in) rfl (by k_is) rfl rfl rfl | fail "k_enter: no rule for these arguments"); (case kB => exact rfl); (case kD => decide +kernel); (case c2 => exact rfl); (case c3 => exact rfl); (case c4 => exact rfl); k_whole; intro g' L' h' tk' cells' FG' F' N' Y' B' X' T' l1; (try k_lt l1); k_cells Y'; (try simp only [List.cons_append, List.nil_append] at N'); (try dsimp only); (try k_lift B'); (try k_fold)))
  k_with "MyKEnter" => ((fail_if_success k_inElt); (refine' code_def ?k1 ?k2 ?k3 ?k4 ?k5 ?kA ?kF ?kK ?k6 ?k7 ?k8 ?k9 ?kB ?_ ?c2 ?c3 ?c4 ?c5; (case kA => exact rfl); (case kF => exact rfl); (case kK => exact rfl); (case k1 => k_asm); (case k2 => k_asm); (case k3 => k_asm); (case k4 => k_asm); (case k5 => k_asm); (case k6 => k_is); (case k7 => k_is); (case k8 => ktr_room); (case k9 => first | exact BindsTo.of_eq rfl | exact binds_K (by k_in) rfl (by k_is) rfl rfl rfl | fail "k_enter: no rule for these arguments"); (case c5 => decide); (case kB => exact locs rfl); (case c2 => exact rfl); (case c3 => exact rfl); (case c4 => exact rfl); k_whole; intro g' L' h' FG' F' N' B' X' T'; (try dsimp only); (try k_lift B'); (try k_fold)))
  k_with "MyPre" => first | with_reducible assumption | omega | with_reducible decide | fail "MyPre"
  k_with "execs cons" => ((fail_if_success k_inElt); first | (with_reducible refine consQ (by with_reducible assumption) (fun Q9 hQ9 => ?_)) | (with_reducible refine consQQ (fun Q8 hQ8 Q9 hQ9 => ?_)))
  k_with "execs cons" => (k_made; walk_at "execs cons")
  k_with "execs cons" => ((with_reducible show wpAny _ _ _ _ _ (Shared.mk _ _ _ (@HAdd.hAdd Nat Nat Nat _ _ _) _)); refine stGen s rfl rfl rfl (fun tk9 => ?_); (try dsimp only))
  k_with "MyQ" => ((fail_if_success (with_reducible show wpAny _ _ _ _ _ _)); (with_reducible first | refine qNext (by with_reducible assumption) ?_ | refine qRet (by with_reducible assumption) ?_ | refine qBrk (by with_reducible assumption) ?_ | refine qCont (by with_reducible assumption) ?_ | refine qGen (by with_reducible assumption) ?_); (try dsimp only))
  k_with "MyAll" => first | k_extra "MyQ" | (k_unfold; (try dsimp only)) | (k_end; kc_close) | walk1 | (dsimp only; walk1) | (leave1; walk_say "STEP leave1"; (try dsimp only)) | fail "no step"
  k_with "eval Name" => (k_here; (with_reducible show wpAny _ _ (eval (Expr.Name _ _) (envOf _ _ _ _ _)) _ _ _); k_dflt (refine' ld ?k1 ?k2 ?_ rfl (by kernel_rfl!) (by kernel_rfl!); (case k1 => k_asm); (case k2 => exact rfl); k_whole))
  k_with "MySize" => ((with_reducible show List.length (List.nil) ≤ _); exact Nat.zero_le _)
  k_with "MyKSub" => (intro p77 hp77; (repeat (first | with_reducible exact hp77 | with_reducible refine List.mem_cons_of_mem _ ?_)); done)
  trivial
section
variable {prog : Program} {w : World} {A : Around} {E : Value → Shared → Prop} {s : Shared} {Q : Value → Shared → Prop}
theorem strs_of : ∀ {ys : List Value} {ss : List Str}, CarriedAll ys (List.map (fun a => PyData.str a) ss) → StrsAre ys ss
  | _, [], .nil => .nil
  | _, _ :: _, .cons (.str _ t) r => .cons _ t (strs_of r)
theorem join_same {D : Addr} {ys : List Value} {x y : Str} {t : Tok} (hl : s.heap.IsList D ys.toArray) (hc : CarriedAll ys (List.map (fun a => PyData.str a) (List.filter (fun _ => true) (signs y)))) (hx : x.length ≤ 16)
    (hw : ((signs y).map (·.length)).sum + (signs y).length ≤ 1048576) (hj : Txt.join x (signs y) = y) (h : ∀ t' k, Q (.str y t') { s with toks := k }) : wpAny (model prog w) A (call (.builtin "str.join") [.str x t, .ref D]) Q E s := by
  rw [List.filter_eq_self.mpr (fun _ _ => rfl)] at hc
  refine join_listW hl (ys := signs y) (strs_of hc) hx hw ?_
  rw [hj]
  exact h
theorem upper_of {y : Str} (h : (signs y).all (fun a => decide (a.cps.toList < (Str.ofString "a").cps.toList)) = true) {a : Str} (ha : a ∈ signs y) : a.cps.toList < (Str.ofString "a").cps.toList := of_decide_eq_true (List.all_eq_true.mp h a ha)
end
theorem newsTup3 {g h : Heap} {L r : Addr} {vs : List Value} {n : Nat} {a b : Addr × Obj} {rest : List (Addr × Obj)} (N : News g L h (a :: b :: (r, tupOf vs n) :: rest)) : News g L h (a :: b :: rest) := fun p hp => by
  rcases List.mem_cons.mp hp with rfl | hp
  · exact N _ (List.mem_cons_self ..)
  · rcases List.mem_cons.mp hp with rfl | hp
    · exact N _ (List.mem_cons_of_mem _ (List.mem_cons_self ..))
    · exact N _ (List.mem_cons_of_mem _ (List.mem_cons_of_mem _ (List.mem_cons_of_mem _ hp)))
end
section
theorem kw_55_cls : True := by
  k_with_none
  k_with "MyEnter" => (refine wpAny_call ?_; k_dflt (refine' code_defG ?k1 ?k2 ?k3 ?k4 ?k5 ?kA ?kF ?kK ?k6 ?k7 ?k8 ?k9 ?kB ?_ ?c2 ?c3 ?c4 ?c5; (case kA => exact rfl); (case kF => exact rfl); (case kK => assumption); (case k1 => k_asm); (case k2 => k_asm); (case k3 => k_asm); (case k4 => k_asm); (case k5 => k_asm); (case k6 => k_is); (case k7 => k_is); (case k8 => ktr_room); (case k9 => first | exact BindsTo.of_eq rfl | exact binds_K (by k_in) rfl (by k_is) rfl rfl rfl); (case c5 => decide); (case kB => exact locs rfl); (case c2 => exact rfl); (case c3 => exact rfl); (case c4 => exact rfl); k_whole; intro g' L' h' FG' F' N' B' X' T' kG'; (try dsimp only); (try k_lift B'); (try k_fold)))
  k_with "binaryOp FloorDiv int int" => (k_here; (with_reducible refine floordiv_int ?d0 ?_ (Or.inl ?d1)); (case d0 => first | with_reducible assumption | decide | omega); (case d1 => first | with_reducible assumption | exact PyProof.noPylong_of_log2 (by decide +kernel)))
  k_with "MyKEnter" => ((fail_if_success k_inElt); (refine' code_defC ?k1 ?k2 ?k3 ?k4 ?k5 ?kA ?kF ?kK ?k6 ?k7 ?k8 ?k9 ?kB ?kD ?_ ?c2 ?c3 ?c4; (case kA => exact rfl); (case kF => exact rfl); (case kK => exact rfl); (case k1 => k_asm); (case k2 => k_asm); (case k3 => k_asm); (case k4 => k_asm); (case k5 => k_asm); (case k6 => k_is); (case k7 => k_is); (case k8 => ktr_room); (case k9 => first | exact BindsTo.of_eq rfl | exact binds_K (by k_in) rfl (by k_is) rfl rfl rfl | fail "k_enter: no rule for these arguments"); (case kB => exact rfl); (case kD => decide +kernel); (case c2 => exact rfl); (case c3 => exact rfl); (case c4 => exact rfl); k_whole; intro g' L' h' tk' cells' FG' F' N' Y' B' X' T' l1; (try k_lt l1); k_cells Y'; (try simp only [List.cons_append, List.nil_append] at N'); (try dsimp only); (try k_lift B'); (try k_fold)))
  k_with "MyKEnter" => ((fail_if_success k_inElt); (refine' code_def ?k1 ?k2 ?k3 ?k4 ?k5 ?kA ?kF ?kK ?k6 ?k7 ?k8 ?k9 ?kB ?_ ?c2 ?c3 ?c4 ?c5; (case kA => exact rfl); (case kF => exact rfl); (case kK => exact rfl); (case k1 => k_asm); (case k2 => k_asm); (case k3 => k_asm); (case k4 => k_asm); (case k5 => k_asm); (case k6 => k_is); (case k7 => k_is); (case k8 => ktr_room); (case k9 => first | exact BindsTo.of_eq rfl | exact binds_K (by k_in) rfl (by k_is) rfl rfl rfl | fail "k_enter: no rule for these arguments"); (case c5 => decide); (case kB => exact locs rfl); (case c2 => exact rfl); (case c3 => exact rfl); (case c4 => exact rfl); k_whole; intro g' L' h' FG' F' N' B' X' T'; (try dsimp only); (try k_lift B'); (try k_fold)))
  k_with "MyPre" => first | with_reducible assumption | omega | with_reducible decide | fail "MyPre"
  k_with "execs cons" => ((fail_if_success k_inElt); first | (with_reducible refine consQ (by with_reducible assumption) (fun Q9 hQ9 => ?_)) | (with_reducible refine consQQ (fun Q8 hQ8 Q9 hQ9 => ?_)))
  k_with "execs cons" => (k_made; walk_at "execs cons")
  k_with "execs cons" => ((with_reducible show wpAny _ _ _ _ _ (Shared.mk _ _ _ (@HAdd.hAdd Nat Nat Nat _ _ _) _)); refine stGen s rfl rfl rfl (fun tk9 => ?_); (try dsimp only))
  k_with "MyQ" => ((fail_if_success (with_reducible show wpAny _ _ _ _ _ _)); (with_reducible first | refine qNext (by with_reducible assumption) ?_ | refine qRet (by with_reducible assumption) ?_ | refine qBrk (by with_reducible assumption) ?_ | refine qCont (by with_reducible assumption) ?_ | refine qGen (by with_reducible assumption) ?_); (try dsimp only))
  k_with "MyAll" => first | k_extra "MyQ" | (k_unfold; (try dsimp only)) | (k_end; kc_close) | walk1 | (dsimp only; walk1) | (leave1; walk_say "STEP leave1"; (try dsimp only)) | fail "no step"
  k_with "eval Name" => (k_here; (with_reducible show wpAny _ _ (eval (Expr.Name _ _) (envOf _ _ _ _ _)) _ _ _); k_dflt (refine' ld ?k1 ?k2 ?_ rfl (by kernel_rfl!) (by kernel_rfl!); (case k1 => k_asm); (case k2 => exact rfl); k_whole))
  k_with "MySize" => ((with_reducible show List.length (List.nil) ≤ _); exact Nat.zero_le _)
  k_with "MyKSub" => (intro p77 hp77; (repeat (first | with_reducible exact hp77 | with_reducible refine List.mem_cons_of_mem _ ?_)); done)
  trivial
section
open PySem.Calls PyProof PySem.Spec
variable {prog : Program} {w : World} {A : Around} {E : Value → Shared → Prop} {s : Shared} {h₀ : Heap} {L : Addr} {m : Str → Option Value} {K : Frag}
/-- what stood ahead of a class's call, and the two addresses that it made -/
structure NewAt (h h' : Heap) (x dx : Addr) : Prop where
  keeps : ∀ b o, h.get? b = some o → h'.get? b = some o
  x : h.get? x = none
  dx : h.get? dx = none
theorem clsE {C : Addr} {pos : List Value} {kw : List (Str × Value)} {fI : Addr} {news : List (Addr × Obj)} {Q : Value → Shared → Prop} (F : Fr h₀ L s.heap m) (X₀ : K.In h₀) (N : News h₀ L s.heap news) (hm : makesIn K C = true) (hi : findIn K (.ref C) "__init__" = some (some (.ref fI))) (hf : isFn K (.ref fI) = true)
    (h : ∀ x dx h', NewAt s.heap h' x dx → Fr h₀ L h' m → News h₀ L h' ((x, instObj C dx) :: (dx, dictOf [] 0) :: news) → (∀ p ∈ news, p.1 < dx) → dx < x →
      codeAny (model prog w) (A.under (.builtin "type.__call__" ⟨.ref C :: pos, kw⟩)) (.call (.ref fI) ⟨.ref x :: pos, kw⟩) (InitBack x fun r s' => match r with | .ok (.ret v) => Q v s' | .ok _ => False | .error e => E e s') { s with heap := h' }) :
    wpAny (model prog w) A (call (.ref C) pos kw) Q E s := by
  refine wpAny_call ?_
  obtain ⟨hh, g, d, t, os⟩ := s
  have X := X₀.keeps F.keep
  have N2 := (N.push F emptyDict).push (F.push _) (instObj C hh.objs.size)
  rw [Heap.size_push] at N2
  exact make_core (makes_of X hm) (looks_findIn X hi) (fun self => bind_fn X self (beq_iff_eq.mp hf)) (.inl rfl)
    (h (hh.objs.size + 1) hh.objs.size _ ⟨fun b o e => Heap.get?_push_of_some _ (Heap.get?_push_of_some _ e), Heap.get?_none_of_le (Nat.le_succ _), Heap.get?_none_of_le (Nat.le_refl _)⟩ ((F.push _).push _) N2 (fun p hp => Heap.lt_size (N p hp).1) (Nat.lt_succ_self _))
theorem eltInit {s₂ H g H' : Heap} {L' x dx : Addr} {m' : Str → Option Value} {news news' : List (Addr × Obj)} {o1 o2 : Obj} (W : NewAt s₂ H x dx) (G : GSub H g (((x, o1) :: (dx, o2) :: news).map (·.1))) (N : News h₀ L H ((x, o1) :: (dx, o2) :: news)) (F' : Fr g L' H' m') (N' : News g L' H' news') (hs : ∀ p ∈ news, p ∈ news') : InElt s₂ H' := fun b o e => by
  have e1 := W.keeps b o e
  by_cases hb : b ∈ ((x, o1) :: (dx, o2) :: news).map (·.1)
  · rcases List.mem_cons.mp hb with hb | hb
    · rw [hb, W.x] at e; cases e
    · rcases List.mem_cons.mp hb with hb | hb
      · rw [hb, W.dx] at e; cases e
      · obtain ⟨p, hp, rfl⟩ := List.mem_map.mp hb
        have h1 := (N p (List.mem_cons_of_mem _ (List.mem_cons_of_mem _ hp))).1
        rw [e1] at h1
        cases h1
        exact (N' p (hs p hp)).1
  · exact F'.keep b o (G b o e1 hb)
end
end
section
theorem kw_60_sgn : True := by
  k_with_none
  k_with "MyEnter" => (refine wpAny_call ?_; k_dflt (refine' code_defG ?k1 ?k2 ?k3 ?k4 ?k5 ?kA ?kF ?kK ?k6 ?k7 ?k8 ?k9 ?kB ?_ ?c2 ?c3 ?c4 ?c5; (case kA => exact rfl); (case kF => exact rfl); (case kK => assumption); (case k1 => k_asm); (case k2 => k_asm); (case k3 => k_asm); (case k4 => k_asm); (case k5 => k_asm); (case k6 => k_is); (case k7 => k_is); (case k8 => ktr_room); (case k9 => first | exact BindsTo.of_eq rfl | exact binds_K (by k_in) rfl (by k_is) rfl rfl rfl); (case c5 => decide); (case kB => exact locs rfl); (case c2 => exact rfl); (case c3 => exact rfl); (case c4 => exact rfl); k_whole; intro g' L' h' FG' F' N' B' X' T' kG'; (try dsimp only); (try k_lift B'); (try k_fold)))
  k_with "binaryOp FloorDiv int int" => (k_here; (with_reducible refine floordiv_int ?d0 ?_ (Or.inl ?d1)); (case d0 => first | with_reducible assumption | decide | omega); (case d1 => first | with_reducible assumption | exact PyProof.noPylong_of_log2 (by decide +kernel)))
  k_with "MyKEnter" => ((fail_if_success k_inElt); (refine' code_defC ?k1 ?k2 ?k3 ?k4 ?k5 ?kA ?kF ?kK ?k6 ?k7 ?k8 ?k9 ?kB ?kD ?_ ?c2 ?c3 ?c4; (case kA => exact rfl); (case kF => exact rfl); (case kK => exact rfl); (case k1 => k_asm); (case k2 => k_asm); (case k3 => k_asm); (case k4 => k_asm); (case k5 => k_asm); (case k6 => k_is); (case k7 => k_is); (case k8 => ktr_room); (case k9 => first | exact BindsTo.of_eq rfl | exact binds_K (by k_in) rfl (by k_is) rfl rfl rfl | fail "k_enter: no rule for these arguments"); (case kB => exact rfl); (case kD => decide +kernel); (case c2 => exact rfl); (case c3 => exact rfl); (case c4 => exact rfl); k_whole; intro g' L' h' tk' cells' FG' F' N' Y' B' X' T' l1; (try k_lt l1); k_cells Y'; (try simp only [List.cons_append, List.nil_append] at N'); (try dsimp only); (try k_lift B'); (try k_fold)))
  k_with "MyKEnter" => ((fail_if_success k_inElt); (refine' code_def ?k1 ?k2 ?k3 ?k4 ?k5 ?kA ?kF ?kK ?k6 ?k7 ?k8 ?k9 ?kB ?_ ?c2 ?c3 ?c4 ?c5; (case kA => exact rfl); (case kF => exact rfl); (case kK => exact rfl); (case k1 => k_asm); (case k2 => k_asm); (case k3 => k_asm); (case k4 => k_asm); (case k5 => k_asm); (case k6 => k_is); (case k7 => k_is); (case k8 => ktr_room); (case k9 => first | exact BindsTo.of_eq rfl | exact binds_K (by k_in) rfl (by k_is) rfl rfl rfl | fail "k_enter: no rule for these arguments"); (case c5 => decide); (case kB => exact locs rfl); (case c2 => exact rfl); (case c3 => exact rfl); (case c4 => exact rfl); k_whole; intro g' L' h' FG' F' N' B' X' T'; (try dsimp only); (try k_lift B'); (try k_fold)))
  k_with "MyPre" => first | with_reducible assumption | omega | with_reducible decide | fail "MyPre"
  k_with "execs cons" => ((fail_if_success k_inElt); first | (with_reducible refine consQ (by with_reducible assumption) (fun Q9 hQ9 => ?_)) | (with_reducible refine consQQ (fun Q8 hQ8 Q9 hQ9 => ?_)))
  k_with "execs cons" => (k_made; walk_at "execs cons")
  k_with "execs cons" => ((with_reducible show wpAny _ _ _ _ _ (Shared.mk _ _ _ (@HAdd.hAdd Nat Nat Nat _ _ _) _)); refine stGen s rfl rfl rfl (fun tk9 => ?_); (try dsimp only))
  k_with "MyQ" => ((fail_if_success (with_reducible show wpAny _ _ _ _ _ _)); (with_reducible first | refine qNext (by with_reducible assumption) ?_ | refine qRet (by with_reducible assumption) ?_ | refine qBrk (by with_reducible assumption) ?_ | refine qCont (by with_reducible assumption) ?_ | refine qGen (by with_reducible assumption) ?_); (try dsimp only))
  k_with "MyAll" => first | k_extra "MyQ" | (k_unfold; (try dsimp only)) | (k_end; kc_close) | walk1 | (dsimp only; walk1) | (leave1; walk_say "STEP leave1"; (try dsimp only)) | fail "no step"
  k_with "eval Name" => (k_here; (with_reducible show wpAny _ _ (eval (Expr.Name _ _) (envOf _ _ _ _ _)) _ _ _); k_dflt (refine' ld ?k1 ?k2 ?_ rfl (by kernel_rfl!) (by kernel_rfl!); (case k1 => k_asm); (case k2 => exact rfl); k_whole))
  k_with "MySize" => ((with_reducible show List.length (List.nil) ≤ _); exact Nat.zero_le _)
  k_with "MyKSub" => (intro p77 hp77; (repeat (first | with_reducible exact hp77 | with_reducible refine List.mem_cons_of_mem _ ?_)); done)
  trivial
theorem kw_60_sgn_a : True := by
  k_with "MyEnterC" => (
  k_dflt (refine' code_defG ?k1 ?k2 ?k3 ?k4 ?k5 ?kA ?kF ?kK ?k6 ?k7 ?k8 ?k9 ?kB ?_ ?c2 ?c3 ?c4 ?c5; (case kA => exact rfl); (case kF => exact rfl); (case kK => assumption); (case k1 => k_asm); (case k2 => k_asm); (case k3 => k_asm); (case k4 => k_asm); (case k5 => k_asm); (case k6 => k_is); (case k7 => k_is); (case k8 => ktr_room); (case k9 => first | exact BindsTo.of_eq rfl | exact binds_K (by k_in) rfl (by k_is) rfl rfl rfl); (case c5 => decide); (case kB => exact locs rfl); (case c2 => exact rfl); (case c3 => exact rfl); (case c4 => exact rfl); k_whole; intro g' L' h' FG' F' N' B' X' T' kG'; (try dsimp only); (try k_lift B'); (try k_fold)))
  k_with "MyNew" => (k_dflt (refine' clsE ?k1 ?k2 ?k3 ?k4 ?k5 ?k6 ?_; (case k1 => k_asm); (case k2 => k_asm); (case k3 => k_asm); (case k4 => k_is); (case k5 => k_is); (case k6 => k_is); k_whole); intro x' d' h' W' F' N' l1 l2; (try k_lt l1); (try k_lt2 l2))
  k_with "LeaveK" => (k_dflt ((fail_if_success k_inElt); (with_reducible rename NewAt _ _ _ _ => W9); (have cE := eltInit W9 (by assumption) (by assumption) (by k_asm) (by k_asm) (by first | exact List.forall_mem_nil _ | k_sub)); clear W9; walk_at "LeaveK"))
  trivial
structure SgT where
  (k0 k1 k2 t0 t1 t2 : Tok)
/-- a Sign's fields -/
noncomputable def sgEs (w : World) (T : SgT) (c : Str) (n i : Int) : List DictEntry :=
  [⟨PyData.keyHash w.params (Str.ofString "sign"), .str (Str.ofString "sign") T.k0, .str c T.t0⟩,
   ⟨PyData.keyHash w.params (Str.ofString "count"), .str (Str.ofString "count") T.k1, .int n T.t1⟩,
   ⟨PyData.keyHash w.params (Str.ofString "at"), .str (Str.ofString "at") T.k2, .int i T.t2⟩]
section
variable {w : World} {mean : ExcName → Option Value} {mg mb : Str → Option Value}
theorem sign_new_does (c : Str) (n i : Int) (t t1 t2 : Tok) :
    Does w mean mg mb 348 3 [.str c t, .int n t1, .int i t2] [] (fun nw v => ∃ x d T, nw = [(x, instObj 348 d), (d, dictOf (sgEs w T c n i) 3)] ∧ v = .ref x) := by
  refine unBox ?_
  simp (zetaDelta := true) (disch := (k_dflt (
    refine inBox ?_
    intro dp un gd cn cs a ccd cl outer A₀ base h₀ L m s Q E B F X N T hk hd hu hret
    walk_at "MyNew"
    walk_at "MyEnterC"
    k_steps
    exact hret _ _ _ _ (by assumption) (by assumption) ⟨_, _, .mk _ _ _ _ _ _, rfl, rfl⟩
    ))) only [↓Box.of]
end
end
section
theorem kw_61_ord : True := by
  k_with_none
  k_with "MyEnter" => (refine wpAny_call ?_; k_dflt (refine' code_defG ?k1 ?k2 ?k3 ?k4 ?k5 ?kA ?kF ?kK ?k6 ?k7 ?k8 ?k9 ?kB ?_ ?c2 ?c3 ?c4 ?c5; (case kA => exact rfl); (case kF => exact rfl); (case kK => assumption); (case k1 => k_asm); (case k2 => k_asm); (case k3 => k_asm); (case k4 => k_asm); (case k5 => k_asm); (case k6 => k_is); (case k7 => k_is); (case k8 => ktr_room); (case k9 => first | exact BindsTo.of_eq rfl | exact binds_K (by k_in) rfl (by k_is) rfl rfl rfl); (case c5 => decide); (case kB => exact locs rfl); (case c2 => exact rfl); (case c3 => exact rfl); (case c4 => exact rfl); k_whole; intro g' L' h' FG' F' N' B' X' T' kG'; (try dsimp only); (try k_lift B'); (try k_fold)))
  k_with "binaryOp FloorDiv int int" => (k_here; (with_reducible refine floordiv_int ?d0 ?_ (Or.inl ?d1)); (case d0 => first | with_reducible assumption | decide | omega); (case d1 => first | with_reducible assumption | exact PyProof.noPylong_of_log2 (by decide +kernel)))
  k_with "MyKEnter" => ((fail_if_success k_inElt); (refine' code_defC ?k1 ?k2 ?k3 ?k4 ?k5 ?kA ?kF ?kK ?k6 ?k7 ?k8 ?k9 ?kB ?kD ?_ ?c2 ?c3 ?c4; (case kA => exact rfl); (case kF => exact rfl); (case kK => exact rfl); (case k1 => k_asm); (case k2 => k_asm); (case k3 => k_asm); (case k4 => k_asm); (case k5 => k_asm); (case k6 => k_is); (case k7 => k_is); (case k8 => ktr_room); (case k9 => first | exact BindsTo.of_eq rfl | exact binds_K (by k_in) rfl (by k_is) rfl rfl rfl | fail "k_enter: no rule for these arguments"); (case kB => exact rfl); (case kD => decide +kernel); (case c2 => exact rfl); (case c3 => exact rfl); (case c4 => exact rfl); k_whole; intro g' L' h' tk' cells' FG' F' N' Y' B' X' T' l1; (try k_lt l1); k_cells Y'; (try simp only [List.cons_append, List.nil_append] at N'); (try dsimp only); (try k_lift B'); (try k_fold)))
  k_with "MyKEnter" => ((fail_if_success k_inElt); (refine' code_def ?k1 ?k2 ?k3 ?k4 ?k5 ?kA ?kF ?kK ?k6 ?k7 ?k8 ?k9 ?kB ?_ ?c2 ?c3 ?c4 ?c5; (case kA => exact rfl); (case kF => exact rfl); (case kK => exact rfl); (case k1 => k_asm); (case k2 => k_asm); (case k3 => k_asm); (case k4 => k_asm); (case k5 => k_asm); (case k6 => k_is); (case k7 => k_is); (case k8 => ktr_room); (case k9 => first | exact BindsTo.of_eq rfl | exact binds_K (by k_in) rfl (by k_is) rfl rfl rfl | fail "k_enter: no rule for these arguments"); (case c5 => decide); (case kB => exact locs rfl); (case c2 => exact rfl); (case c3 => exact rfl); (case c4 => exact rfl); k_whole; intro g' L' h' FG' F' N' B' X' T'; (try dsimp only); (try k_lift B'); (try k_fold)))
  k_with "MyPre" => first | with_reducible assumption | omega | with_reducible decide | fail "MyPre"
  k_with "execs cons" => ((fail_if_success k_inElt); first | (with_reducible refine consQ (by with_reducible assumption) (fun Q9 hQ9 => ?_)) | (with_reducible refine consQQ (fun Q8 hQ8 Q9 hQ9 => ?_)))
  k_with "execs cons" => (k_made; walk_at "execs cons")
  k_with "execs cons" => ((with_reducible show wpAny _ _ _ _ _ (Shared.mk _ _ _ (@HAdd.hAdd Nat Nat Nat _ _ _) _)); refine stGen s rfl rfl rfl (fun tk9 => ?_); (try dsimp only))
  k_with "MyQ" => ((fail_if_success (with_reducible show wpAny _ _ _ _ _ _)); (with_reducible first | refine qNext (by with_reducible assumption) ?_ | refine qRet (by with_reducible assumption) ?_ | refine qBrk (by with_reducible assumption) ?_ | refine qCont (by with_reducible assumption) ?_ | refine qGen (by with_reducible assumption) ?_); (try dsimp only))
  k_with "MyAll" => first | k_extra "MyQ" | (k_unfold; (try dsimp only)) | (k_end; kc_close) | walk1 | (dsimp only; walk1) | (leave1; walk_say "STEP leave1"; (try dsimp only)) | fail "no step"
  k_with "eval Name" => (k_here; (with_reducible show wpAny _ _ (eval (Expr.Name _ _) (envOf _ _ _ _ _)) _ _ _); k_dflt (refine' ld ?k1 ?k2 ?_ rfl (by kernel_rfl!) (by kernel_rfl!); (case k1 => k_asm); (case k2 => exact rfl); k_whole))
  k_with "MySize" => ((with_reducible show List.length (List.nil) ≤ _); exact Nat.zero_le _)
  k_with "MyKSub" => (intro p77 hp77; (repeat (first | with_reducible exact hp77 | with_reducible refine List.mem_cons_of_mem _ ?_)); done)
  trivial
theorem kw_61_ord_a : True := by
  k_with "MyEnterC" => (
  k_dflt (refine' code_defG ?k1 ?k2 ?k3 ?k4 ?k5 ?kA ?kF ?kK ?k6 ?k7 ?k8 ?k9 ?kB ?_ ?c2 ?c3 ?c4 ?c5; (case kA => exact rfl); (case kF => exact rfl); (case kK => assumption); (case k1 => k_asm); (case k2 => k_asm); (case k3 => k_asm); (case k4 => k_asm); (case k5 => k_asm); (case k6 => k_is); (case k7 => k_is); (case k8 => ktr_room); (case k9 => first | exact BindsTo.of_eq rfl | exact binds_K (by k_in) rfl (by k_is) rfl rfl rfl); (case c5 => decide); (case kB => exact locs rfl); (case c2 => exact rfl); (case c3 => exact rfl); (case c4 => exact rfl); k_whole; intro g' L' h' FG' F' N' B' X' T' kG'; (try dsimp only); (try k_lift B'); (try k_fold)))
  k_with "MyNew" => (k_dflt (refine' clsE ?k1 ?k2 ?k3 ?k4 ?k5 ?k6 ?_; (case k1 => k_asm); (case k2 => k_asm); (case k3 => k_asm); (case k4 => k_is); (case k5 => k_is); (case k6 => k_is); k_whole); intro x' d' h' W' F' N' l1 l2; (try k_lt l1); (try k_lt2 l2))
  k_with "LeaveK" => (k_dflt ((fail_if_success k_inElt); (with_reducible rename NewAt _ _ _ _ => W9); (have cE := eltInit W9 (by assumption) (by assumption) (by k_asm) (by k_asm) (by first | exact List.forall_mem_nil _ | k_sub)); clear W9; walk_at "LeaveK"))
  trivial
structure OrT where
  (k0 k1 k2 k3 k4 k5 k6 k7 k8 k9 k10 k11 k12 k13 k14 k15 v0 v2 v3 v4 v5 v6 v7 v8 v9 v11 v12 v13 : Tok)
structure OrS where
  seen : Int
  plain : Bool
  point : Str
  lead : Int
  trail : Int
  nines : Int
  behind : Int
  last : Str
/-- an Order's fields -/
noncomputable def orEs (w : World) (T : OrT) (st : OrS) : List DictEntry :=
  [⟨PyData.keyHash w.params (Str.ofString "seen"), .str (Str.ofString "seen") T.k0, .int st.seen T.v0⟩,
   ⟨PyData.keyHash w.params (Str.ofString "is_plain"), .str (Str.ofString "is_plain") T.k1, .bool st.plain⟩,
   ⟨PyData.keyHash w.params (Str.ofString "point"), .str (Str.ofString "point") T.k2, .str st.point T.v2⟩,
   ⟨PyData.keyHash w.params (Str.ofString "lead"), .str (Str.ofString "lead") T.k3, .int st.lead T.v3⟩,
   ⟨PyData.keyHash w.params (Str.ofString "trail"), .str (Str.ofString "trail") T.k4, .int st.trail T.v4⟩,
   ⟨PyData.keyHash w.params (Str.ofString "nines"), .str (Str.ofString "nines") T.k5, .int st.nines T.v5⟩,
   ⟨PyData.keyHash w.params (Str.ofString "zero"), .str (Str.ofString "zero") T.k6, .str (Str.ofString "") T.v6⟩,
   ⟨PyData.keyHash w.params (Str.ofString "zeros"), .str (Str.ofString "zeros") T.k7, .int 0 T.v7⟩,
   ⟨PyData.keyHash w.params (Str.ofString "floats"), .str (Str.ofString "floats") T.k8, .int 0 T.v8⟩,
   ⟨PyData.keyHash w.params (Str.ofString "behind"), .str (Str.ofString "behind") T.k9, .int st.behind T.v9⟩,
   ⟨PyData.keyHash w.params (Str.ofString "is_late"), .str (Str.ofString "is_late") T.k10, .bool false⟩,
   ⟨PyData.keyHash w.params (Str.ofString "sign"), .str (Str.ofString "sign") T.k11, .str (Str.ofString "") T.v11⟩,
   ⟨PyData.keyHash w.params (Str.ofString "money"), .str (Str.ofString "money") T.k12, .str (Str.ofString "") T.v12⟩,
   ⟨PyData.keyHash w.params (Str.ofString "last"), .str (Str.ofString "last") T.k13, .str st.last T.v13⟩,
   ⟨PyData.keyHash w.params (Str.ofString "is_over"), .str (Str.ofString "is_over") T.k14, .bool false⟩,
   ⟨PyData.keyHash w.params (Str.ofString "is_inserted"), .str (Str.ofString "is_inserted") T.k15, .bool false⟩]
noncomputable def ord0 : OrS := ⟨0, false, Str.ofString "", 0, 0, 0, 0, Str.ofString ""⟩
section
variable {w : World} {mean : ExcName → Option Value} {mg mb : Str → Option Value}
theorem order_new_does :
    Does w mean mg mb 505 3 [] [] (fun nw v => ∃ x d T, nw = [(x, instObj 505 d), (d, dictOf (orEs w T ord0) 16)] ∧ v = .ref x) := by
  refine unBox ?_
  simp (zetaDelta := true) (disch := (k_dflt (
    refine inBox ?_
    intro dp un gd cn cs a ccd cl outer A₀ base h₀ L m s Q E B F X N T hk hd hu hret
    walk_at "MyNew"
    walk_at "MyEnterC"
    k_steps
    exact hret _ _ _ _ (by assumption) (by assumption) ⟨_, _, .mk _ _ _ _ _ _ _ _ _ _ _ _ _ _ _ _ _ _ _ _ _ _ _ _ _ _ _ _, rfl, rfl⟩
    ))) only [↓Box.of]
end
end
section
theorem kw_63_sof : True := by
  k_with_none
  k_with "MyEnter" => (refine wpAny_call ?_; k_dflt (refine' code_defG ?k1 ?k2 ?k3 ?k4 ?k5 ?kA ?kF ?kK ?k6 ?k7 ?k8 ?k9 ?kB ?_ ?c2 ?c3 ?c4 ?c5; (case kA => exact rfl); (case kF => exact rfl); (case kK => assumption); (case k1 => k_asm); (case k2 => k_asm); (case k3 => k_asm); (case k4 => k_asm); (case k5 => k_asm); (case k6 => k_is); (case k7 => k_is); (case k8 => ktr_room); (case k9 => first | exact BindsTo.of_eq rfl | exact binds_K (by k_in) rfl (by k_is) rfl rfl rfl); (case c5 => decide); (case kB => exact locs rfl); (case c2 => exact rfl); (case c3 => exact rfl); (case c4 => exact rfl); k_whole; intro g' L' h' FG' F' N' B' X' T' kG'; (try dsimp only); (try k_lift B'); (try k_fold)))
  k_with "binaryOp FloorDiv int int" => (k_here; (with_reducible refine floordiv_int ?d0 ?_ (Or.inl ?d1)); (case d0 => first | with_reducible assumption | decide | omega); (case d1 => first | with_reducible assumption | exact PyProof.noPylong_of_log2 (by decide +kernel)))
  k_with "MyKEnter" => ((fail_if_success k_inElt); (refine' code_defC ?k1 ?k2 ?k3 ?k4 ?k5 ?kA ?kF ?kK ?k6 ?k7 ?k8 ?k9 ?kB ?kD ?_ ?c2 ?c3 ?c4; (case kA => exact rfl); (case kF => exact rfl); (case kK => exact rfl); (case k1 => k_asm); (case k2 => k_asm); (case k3 => k_asm); (case k4 => k_asm); (case k5 => k_asm); (case k6 => k_is); (case k7 => k_is); (case k8 => ktr_room); (case k9 => first | exact BindsTo.of_eq rfl | exact binds_K (by k_in) rfl (by k_is) rfl rfl rfl | fail "k_enter: no rule for these arguments"); (case kB => exact rfl); (case kD => decide +kernel); (case c2 => exact rfl); (case c3 => exact rfl); (case c4 => exact rfl); k_whole; intro g' L' h' tk' cells' FG' F' N' Y' B' X' T' l1; (try k_lt l1); k_cells Y'; (try simp only [List.cons_append, List.nil_append] at N'); (try dsimp only); (try k_lift B'); (try k_fold)))
  k_with "MyKEnter" => ((fail_if_success k_inElt); (refine' code_def ?k1 ?k2 ?k3 ?k4 ?k5 ?kA ?kF ?kK ?k6 ?k7 ?k8 ?k9 ?kB ?_ ?c2 ?c3 ?c4 ?c5; (case kA => exact rfl); (case kF => exact rfl); (case kK => exact rfl); (case k1 => k_asm); (case k2 => k_asm); (case k3 => k_asm); (case k4 => k_asm); (case k5 => k_asm); (case k6 => k_is); (case k7 => k_is); (case k8 => ktr_room); (case k9 => first | exact BindsTo.of_eq rfl | exact binds_K (by k_in) rfl (by k_is) rfl rfl rfl | fail "k_enter: no rule for these arguments"); (case c5 => decide); (case kB => exact locs rfl); (case c2 => exact rfl); (case c3 => exact rfl); (case c4 => exact rfl); k_whole; intro g' L' h' FG' F' N' B' X' T'; (try dsimp only); (try k_lift B'); (try k_fold)))
  k_with "MyPre" => first | with_reducible assumption | omega | with_reducible decide | fail "MyPre"
  k_with "execs cons" => ((fail_if_success k_inElt); first | (with_reducible refine consQ (by with_reducible assumption) (fun Q9 hQ9 => ?_)) | (with_reducible refine consQQ (fun Q8 hQ8 Q9 hQ9 => ?_)))
  k_with "execs cons" => (k_made; walk_at "execs cons")
  k_with "execs cons" => ((with_reducible show wpAny _ _ _ _ _ (Shared.mk _ _ _ (@HAdd.hAdd Nat Nat Nat _ _ _) _)); refine stGen s rfl rfl rfl (fun tk9 => ?_); (try dsimp only))
  k_with "MyQ" => ((fail_if_success (with_reducible show wpAny _ _ _ _ _ _)); (with_reducible first | refine qNext (by with_reducible assumption) ?_ | refine qRet (by with_reducible assumption) ?_ | refine qBrk (by with_reducible assumption) ?_ | refine qCont (by with_reducible assumption) ?_ | refine qGen (by with_reducible assumption) ?_); (try dsimp only))
  k_with "MyAll" => first | k_extra "MyQ" | (k_unfold; (try dsimp only)) | (k_end; kc_close) | walk1 | (dsimp only; walk1) | (leave1; walk_say "STEP leave1"; (try dsimp only)) | fail "no step"
  k_with "eval Name" => (k_here; (with_reducible show wpAny _ _ (eval (Expr.Name _ _) (envOf _ _ _ _ _)) _ _ _); k_dflt (refine' ld ?k1 ?k2 ?_ rfl (by kernel_rfl!) (by kernel_rfl!); (case k1 => k_asm); (case k2 => exact rfl); k_whole))
  k_with "MySize" => ((with_reducible show List.length (List.nil) ≤ _); exact Nat.zero_le _)
  k_with "MyKSub" => (intro p77 hp77; (repeat (first | with_reducible exact hp77 | with_reducible refine List.mem_cons_of_mem _ ?_)); done)
  trivial
theorem kw_63_sof_a : True := by
  k_with "MyPre" => first | with_reducible assumption | omega | assumption | fail "MyPre"
  k_with "call ref" => (k_dflt (k_here; (with_reducible show wpAny _ _ (call (Value.ref 359) _) _ _ _); (fail_if_success k_inElt); k_dflt (refine' Does.use ?k1 ?k2 ?k3 ?k4 ?k5 ?kK (sign_at_does _ _ _ _ _ ?p0) ?kS ?kd ?ku ?_; (case k1 => k_asm); (case k2 => k_asm); (case k3 => k_asm); (case k4 => k_asm); (case k5 => k_asm); (case kK => first | exact rfl | assumption); (case kS => (repeat' (first | exact List.forall_mem_nil _ | (refine List.forall_mem_cons.mpr ⟨?_, ?_⟩) | k_mem | (intro p9 hp9; repeat' (first | exact hp9 | exact List.mem_append_left _ hp9 | exact List.mem_append_right _ hp9 | refine List.Mem.tail _ ?_ | refine List.mem_append_right _ ?_))))); (case kd => ktr_room); (case ku => ktr_units); (case p0 => walk_at "MyPre"); k_whole); (intro v9 h9 tk9 nw9 E9 F9 N9 hp9; (obtain ⟨hn9, t9, hv9⟩ := hp9; subst hn9; subst hv9); (try simp only [List.nil_append, List.cons_append] at N9); (try dsimp only); (try k_sweep); (try clear E9))))
  k_with "call ref" => (k_dflt (k_here; (with_reducible show wpAny _ _ (call (Value.ref 348) _) _ _ _); (fail_if_success k_inElt); k_dflt (refine' Does.use ?k1 ?k2 ?k3 ?k4 ?k5 ?kK (sign_new_does _ _ _ _ _ _) ?kS ?kd ?ku ?_; (case k1 => k_asm); (case k2 => k_asm); (case k3 => k_asm); (case k4 => k_asm); (case k5 => k_asm); (case kK => first | exact rfl | assumption); (case kS => (repeat' (first | exact List.forall_mem_nil _ | (refine List.forall_mem_cons.mpr ⟨?_, ?_⟩) | k_mem | (intro p9 hp9; repeat' (first | exact hp9 | exact List.mem_append_left _ hp9 | exact List.mem_append_right _ hp9 | refine List.Mem.tail _ ?_ | refine List.mem_append_right _ ?_))))); (case kd => ktr_room); (case ku => ktr_units); k_whole); (intro v9 h9 tk9 nw9 E9 F9 N9 hp9; (obtain ⟨x9, d9, T9, hn9, hv9⟩ := hp9; subst hn9; subst hv9); (try simp only [List.nil_append, List.cons_append] at N9); (try dsimp only); (try k_sweep); (try clear E9))))
  k_with "MySize" => (simp only [List.size_toArray, List.length_map, List.length_append, List.length_cons, List.length_nil]; rw [PySem.sizeLine_eq]; omega)
  trivial
inductive AppMark : Prop | mk
theorem newsDrop3 {g h : Heap} {L : Addr} {a b c : Addr × Obj} {r : List (Addr × Obj)} (N : News g L h (a :: b :: c :: r)) : News g L h (a :: b :: r) := fun p hp => by
  rcases List.mem_cons.mp hp with rfl | hp
  · exact N _ (.head _)
  · rcases List.mem_cons.mp hp with rfl | hp
    · exact N _ (.tail _ (.head _))
    · exact N _ (.tail _ (.tail _ (.tail _ hp)))
theorem kw_63_sof_b : True := by
  k_with "AppNe" => (k_dflt ((with_reducible rename News _ _ _ _ => N9); (have q1 := newsNe N9 (List.Mem.head _) (List.Mem.tail _ (List.Mem.tail _ (List.Mem.tail _ (List.Mem.head _)))) (by k_cls)); (have q2 := newsNe N9 (List.Mem.tail _ (List.Mem.head _)) (List.Mem.tail _ (List.Mem.tail _ (List.Mem.tail _ (List.Mem.head _)))) (by k_cls)); (have q3 := newsNe N9 (List.Mem.tail _ (List.Mem.tail _ (List.Mem.head _))) (List.Mem.tail _ (List.Mem.tail _ (List.Mem.tail _ (List.Mem.head _)))) (by k_cls))))
  k_with "call builtin:list.append" => (k_dflt (k_here; (fail_if_success (with_reducible rename AppMark => z9)); (have z9 := AppMark.mk); (first | (walk_at "AppNe"; walk_at "call builtin:list.append") | ((with_reducible rename News _ _ _ _ => N7); (have N8 := newsDrop3 N7); clear N7; walk_at "AppNe"; walk_at "call builtin:list.append"))))
  trivial
/-- a Sign that was made -/
structure Sg where
  (x d : Addr) (T : SgT) (c : Str) (n i : Int)
noncomputable abbrev Sg.ref (s : Sg) : Value := .ref s.x
noncomputable abbrev Sg.key (s : Sg) : Str × Int × Int := (s.c, s.n, s.i)
noncomputable def Sg.objs (w : World) (s : Sg) : List (Addr × Obj) := [(s.x, instObj 348 s.d), (s.d, dictOf (sgEs w s.T s.c s.n s.i) 3)]
noncomputable def sgAll (w : World) (L : List Sg) : List (Addr × Obj) := L.flatMap (Sg.objs w)
theorem sgAll_cls {w : World} {L : List Sg} {p : Addr × Obj} (h : p ∈ sgAll w L) : p.2.cls = .ref 348 ∨ p.2.cls = .type "dict" := by
  obtain ⟨s, _, hp⟩ := List.mem_flatMap.mp h
  rcases List.mem_cons.mp hp with rfl | hp
  · exact .inl rfl
  · rcases List.mem_cons.mp hp with rfl | hp
    · exact .inr rfl
    · cases hp
theorem sgAll_off {w : World} {g h : Heap} {L : Addr} {l : Addr} {vs : Array Value} {k : Nat} {Lc : List Sg} (N : News g L h ((l, listOf vs k) :: sgAll w Lc)) : OwnOff (sgAll w Lc) [l] := fun p hp b hb e => by
  rw [List.mem_singleton.mp hb] at e
  have h1 := N.get (List.mem_cons_of_mem _ hp)
  have h2 := N.get (List.mem_cons_self ..)
  rw [e] at h1
  have h3 := congrArg Obj.cls (Option.some.inj (h1.symm.trans h2))
  rcases sgAll_cls hp with q | q
  · rw [q] at h3; cases h3
  · rw [q] at h3; exact absurd (Value.type.inj h3) (by decide)
theorem sgAll_snoc {w : World} {L : List Sg} {s : Sg} : sgAll w (L ++ [s]) = sgAll w L ++ s.objs w := by rw [sgAll, sgAll, List.flatMap_append]; simp
/-- a text's sign at i, its count, the place behind it -/
structure SgOk (y : Str) (c : Str) (n i e : Int) : Prop where
  sg : SgF y i c
  ct : ((Txt.slice y (some (i + (c.length : Int))) (some (i + (c.length : Int) + 1)) != Str.ofString "(") = true ∧ n = 1 ∧ e = i + (c.length : Int) ∧ i + (c.length : Int) ≤ 40) ∨ (c = Str.ofString "9" ∧ CtF y (i + 1) n e ∧ i + 1 < e)
noncomputable def Chain (y : Str) : List (Str × Int × Int) → Int → Prop
  | [], a => a = (y.length : Int)
  | (c, n, i) :: r, a => i = a ∧ ∃ e, SgOk y c n i e ∧ Chain y r e
structure SoS where
  (L : List Sg) (a : Int) (t : Tok) (k : Nat)
theorem newsTake1 {g h : Heap} {L : Addr} {p q : Addr × Obj} {r : List (Addr × Obj)} (N : News g L h (p :: q :: r)) : News g L h (q :: r) := fun x hx => N x (List.mem_cons_of_mem _ hx)
theorem sofSub {w : World} {l x d : Addr} {T : SgT} {c : Str} {n i : Int} {r : Addr × Obj} {Lc : List Sg} {k : Nat} : ∀ p ∈ (l, listOf ((Lc ++ [(⟨x, d, T, c, n, i⟩ : Sg)]).map Sg.ref).toArray k) :: sgAll w (Lc ++ [(⟨x, d, T, c, n, i⟩ : Sg)]),
    p ∈ (x, instObj 348 d) :: (d, dictOf (sgEs w T c n i) 3) :: r :: (l, listOf ((Lc.map Sg.ref).toArray.push (.ref x)) k) :: sgAll w Lc := fun p hp => by
  rw [sgAll_snoc, List.map_append, List.map_cons, List.map_nil] at hp
  have e : (List.map Sg.ref Lc ++ [Sg.ref ⟨x, d, T, c, n, i⟩]).toArray = (Lc.map Sg.ref).toArray.push (.ref x) := by simp
  rw [e] at hp
  rcases List.mem_cons.mp hp with rfl | hp
  · exact .tail _ (.tail _ (.tail _ (.head _)))
  · rcases List.mem_append.mp hp with hp | hp
    · exact .tail _ (.tail _ (.tail _ (.tail _ hp)))
    · rcases List.mem_cons.mp hp with rfl | hp
      · exact .head _
      · rcases List.mem_cons.mp hp with rfl | hp
        · exact .tail _ (.head _)
        · cases hp
section
variable {w : World} {mean : ExcName → Option Value} {mg mb : Str → Option Value}
theorem deepen {mean : ExcName → Option Value} {f : Addr} {d d' : Nat} {vs : List Value} {N0 : List (Addr × Obj)} {post : List (Addr × Obj) → Value → Prop} (hd : d ≤ d') (C : Does w mean mg mb f d vs N0 post) : Does w mean mg mb f d' vs N0 post :=
  fun dp un _ _ _ _ _ _ _ _ _ _ _ _ _ _ _ B F X N T hk h1 h2 h => C dp un _ _ _ _ _ _ _ _ _ _ _ _ _ _ _ B F X N T hk (by omega) (by omega) h
theorem nineLen : (Str.ofString "9").length = 1 := by decide +kernel
theorem SgOk.room {y c : Str} {n i e : Int} (ho : SgOk y c n i e) : i + (c.length : Int) ≤ 40 := by
  rcases ho.ct with ⟨h1, rfl, rfl, h2⟩ | ⟨rfl, h1, h2⟩
  · exact h2
  · rw [nineLen]; exact h1.high
theorem count_any {y c : Str} {n i e : Int} (t tt : Tok) (ho : SgOk y c n i e) (hl : y.length ≤ 40) : Does w mean mg mb 364 10 [.str y t, .int (i + (c.length : Int)) tt] [] (fun nw v => ∃ r t1 t2, nw = [(r, tupOf [.int n t1, .int e t2] 0)] ∧ v = .ref r) := by
  have h0 := ho.sg.low
  rcases ho.ct with ⟨h1, rfl, rfl, h2⟩ | ⟨rfl, h1, h2⟩
  · exact deepen (by decide) (count_plain_does y _ t tt hl h1 (by omega) h2)
  · rw [nineLen]; exact count_paren_does y (i + 1) n e t tt h1
theorem kw_63_sof_c : True := by
  k_with "call ref" => (k_dflt (k_here; (with_reducible show wpAny _ _ (call (Value.ref 364) _) _ _ _); (fail_if_success k_inElt); k_dflt (refine' Does.use ?k1 ?k2 ?k3 ?k4 ?k5 ?kK (count_any _ _ ?p0 ?p1) ?kS ?kd ?ku ?_; (case k1 => k_asm); (case k2 => k_asm); (case k3 => k_asm); (case k4 => k_asm); (case k5 => k_asm); (case kK => first | exact rfl | assumption); (case kS => (repeat' (first | exact List.forall_mem_nil _ | (refine List.forall_mem_cons.mpr ⟨?_, ?_⟩) | k_mem | (intro p9 hp9; repeat' (first | exact hp9 | exact List.mem_append_left _ hp9 | exact List.mem_append_right _ hp9 | refine List.Mem.tail _ ?_ | refine List.mem_append_right _ ?_))))); (case kd => ktr_room); (case ku => ktr_units); (case p0 => walk_at "MyPre"); (case p1 => walk_at "MyPre"); k_whole); (intro v9 h9 tk9 nw9 E9 F9 N9 hp9; (obtain ⟨r9, t9, u9, hn9, hv9⟩ := hp9; subst hn9; subst hv9); (try simp only [List.nil_append, List.cons_append] at N9); (try dsimp only); (try k_sweep); (try clear E9))))
  trivial
theorem signs_of_does (y : Str) (ps : List (Str × Int × Int)) (t : Tok) (hl : y.length ≤ 40) (hn : ps.length ≤ 40) (h : Chain y ps 0) :
    Does w mean mg mb 371 12 [.str y t] [] (fun nw v => ∃ l kk L, nw = (l, listOf (L.map Sg.ref).toArray kk) :: sgAll w L ∧ v = .ref l ∧ L.map Sg.key = ps) := by
  refine unBox ?_
  simp (zetaDelta := true) (disch := (k_dflt (
    refine inBox ?_
    intro dp un gd cn cs a ccd cl outer A₀ base h₀ L m s Q E B F X N T hk hd hu hret
    have cE := InElt.start s.heap
    walk_at "MyEnter"
    repeat ((fail_if_success (with_reducible show wpAny _ _ (exec (Stmt.While _ _ _ _) _) _ _ _)); (first | k_extra "MyQ" | (k_unfold; (try dsimp only)) | walk1 | (dsimp only; walk1)))
    rename Fr _ _ _ _ => F1
    rename News _ _ _ _ => N1
    refine' ksw_while (σ := SoS) (fun c => (_, listOf (c.L.map Sg.ref).toArray c.k) :: sgAll w c.L) (fun c => [(Str.ofString "at", .int c.a c.t)]) (fun _ => True) [Str.ofString "sign", Str.ofString "count", Str.ofString "end"] (fun c => ∃ post, c.L.map Sg.key ++ post = ps ∧ Chain y post c.a) (fun c => ps.length - c.L.length) ⟨[], 0, _, 0⟩ F1 (newsTake1 N1) trivial ?hk ⟨ps, rfl, h⟩ ?turn
    case hk => kst_all
    case turn =>
      clear F1 N1
      rintro ⟨Lc, ac, tc, kc⟩ u h1 tk1 - ⟨post, hpost, hch⟩ F2 N2
      dsimp only at F2 N2 hpost hch
      dsimp only [kstB] at F2
      cases post with
      | nil => 
        have hat : ac = (y.length : Int) := hch
        subst hat
        (try k_fold)
        k_steps
        exact hret _ _ _ _ (by assumption) (by assumption) ⟨_, _, _, rfl, rfl, by rw [← hpost, List.append_nil]⟩
      | cons p post => 
        obtain ⟨c, n, i⟩ := p
        obtain ⟨rfl, e, ho, hch⟩ := hch
        have hsg := ho.sg
        have hlow := hsg.low
        have hhigh := hsg.high
        have hroom := ho.room
        have hoff := sgAll_off N2
        have hln : Lc.length < ps.length := by have := congrArg List.length hpost; rw [List.length_append, List.length_map, List.length_cons] at this; omega
        (try k_fold)
        repeat ((fail_if_success (with_reducible show wpAny _ _ (exec (Stmt.If (Expr.BoolOp _ _ _) _ _ _) _) _ _ _)); (first | k_extra "MyQ" | (k_unfold; (try dsimp only)) | walk1 | (dsimp only; walk1)))
        rename Fr _ _ _ _ => F9
        rename News _ _ _ _ => N9
        refine joinStay F9 N9 ?chk ?go
        case chk =>
          rcases ho.ct with ⟨h1, rfl, rfl, h2⟩ | ⟨rfl, h1, h2⟩
          all_goals k_steps
          all_goals (rename News _ _ _ _ => NZ)
          all_goals exact StayP.mk' rfl (by assumption) (cb_drop NZ (fun p hp => by repeat (first | exact hp | refine List.Mem.tail _ ?_)))
        clear F9 N9
        rintro hq1 tq1 F9 N9
        k_steps
        rename Fr _ _ _ _ => FE
        rename News _ _ _ _ => NE
        exact ksw_end (⟨Lc ++ [(⟨_, _, _, c, n, i⟩ : Sg)], e, _, kc + 1⟩ : SoS) FE NE sofSub trivial (by kst_all) (by ksw_same) ⟨post, by rw [List.map_append, List.append_assoc]; exact hpost, hch⟩ (by dsimp only; rw [List.length_append, List.length_cons, List.length_nil]; omega)
    ))) only [↓Box.of]
end
end
section
theorem kw_64_sym : True := by
  k_with_none
  k_with "MyEnter" => (refine wpAny_call ?_; k_dflt (refine' code_defG ?k1 ?k2 ?k3 ?k4 ?k5 ?kA ?kF ?kK ?k6 ?k7 ?k8 ?k9 ?kB ?_ ?c2 ?c3 ?c4 ?c5; (case kA => exact rfl); (case kF => exact rfl); (case kK => assumption); (case k1 => k_asm); (case k2 => k_asm); (case k3 => k_asm); (case k4 => k_asm); (case k5 => k_asm); (case k6 => k_is); (case k7 => k_is); (case k8 => ktr_room); (case k9 => first | exact BindsTo.of_eq rfl | exact binds_K (by k_in) rfl (by k_is) rfl rfl rfl); (case c5 => decide); (case kB => exact locs rfl); (case c2 => exact rfl); (case c3 => exact rfl); (case c4 => exact rfl); k_whole; intro g' L' h' FG' F' N' B' X' T' kG'; (try dsimp only); (try k_lift B'); (try k_fold)))
  k_with "binaryOp FloorDiv int int" => (k_here; (with_reducible refine floordiv_int ?d0 ?_ (Or.inl ?d1)); (case d0 => first | with_reducible assumption | decide | omega); (case d1 => first | with_reducible assumption | exact PyProof.noPylong_of_log2 (by decide +kernel)))
  k_with "MyKEnter" => ((fail_if_success k_inElt); (refine' code_defC ?k1 ?k2 ?k3 ?k4 ?k5 ?kA ?kF ?kK ?k6 ?k7 ?k8 ?k9 ?kB ?kD ?_ ?c2 ?c3 ?c4; (case kA => exact rfl); (case kF => exact rfl); (case kK => exact rfl); (case k1 => k_asm); (case k2 => k_asm); (case k3 => k_asm); (case k4 => k_asm); (case k5 => k_asm); (case k6 => k_is); (case k7 => k_is); (case k8 => ktr_room); (case k9 => first | exact BindsTo.of_eq rfl | exact binds_K (by k_in) rfl (by k_is) rfl rfl rfl | fail "k_enter: no rule for these arguments"); (case kB => exact rfl); (case kD => decide +kernel); (case c2 => exact rfl); (case c3 => exact rfl); (case c4 => exact rfl); k_whole; intro g' L' h' tk' cells' FG' F' N' Y' B' X' T' l1; (try k_lt l1); k_cells Y'; (try simp only [List.cons_append, List.nil_append] at N'); (try dsimp only); (try k_lift B'); (try k_fold)))
  k_with "MyKEnter" => ((fail_if_success k_inElt); (refine' code_def ?k1 ?k2 ?k3 ?k4 ?k5 ?kA ?kF ?kK ?k6 ?k7 ?k8 ?k9 ?kB ?_ ?c2 ?c3 ?c4 ?c5; (case kA => exact rfl); (case kF => exact rfl); (case kK => exact rfl); (case k1 => k_asm); (case k2 => k_asm); (case k3 => k_asm); (case k4 => k_asm); (case k5 => k_asm); (case k6 => k_is); (case k7 => k_is); (case k8 => ktr_room); (case k9 => first | exact BindsTo.of_eq rfl | exact binds_K (by k_in) rfl (by k_is) rfl rfl rfl | fail "k_enter: no rule for these arguments"); (case c5 => decide); (case kB => exact locs rfl); (case c2 => exact rfl); (case c3 => exact rfl); (case c4 => exact rfl); k_whole; intro g' L' h' FG' F' N' B' X' T'; (try dsimp only); (try k_lift B'); (try k_fold)))
  k_with "MyPre" => first | with_reducible assumption | omega | with_reducible decide | fail "MyPre"
  k_with "execs cons" => ((fail_if_success k_inElt); first | (with_reducible refine consQ (by with_reducible assumption) (fun Q9 hQ9 => ?_)) | (with_reducible refine consQQ (fun Q8 hQ8 Q9 hQ9 => ?_)))
  k_with "execs cons" => (k_made; walk_at "execs cons")
  k_with "execs cons" => ((with_reducible show wpAny _ _ _ _ _ (Shared.mk _ _ _ (@HAdd.hAdd Nat Nat Nat _ _ _) _)); refine stGen s rfl rfl rfl (fun tk9 => ?_); (try dsimp only))
  k_with "MyQ" => ((fail_if_success (with_reducible show wpAny _ _ _ _ _ _)); (with_reducible first | refine qNext (by with_reducible assumption) ?_ | refine qRet (by with_reducible assumption) ?_ | refine qBrk (by with_reducible assumption) ?_ | refine qCont (by with_reducible assumption) ?_ | refine qGen (by with_reducible assumption) ?_); (try dsimp only))
  k_with "MyAll" => first | k_extra "MyQ" | (k_unfold; (try dsimp only)) | (k_end; kc_close) | walk1 | (dsimp only; walk1) | (leave1; walk_say "STEP leave1"; (try dsimp only)) | fail "no step"
  k_with "eval Name" => (k_here; (with_reducible show wpAny _ _ (eval (Expr.Name _ _) (envOf _ _ _ _ _)) _ _ _); k_dflt (refine' ld ?k1 ?k2 ?_ rfl (by kernel_rfl!) (by kernel_rfl!); (case k1 => k_asm); (case k2 => exact rfl); k_whole))
  k_with "MySize" => ((with_reducible show List.length (List.nil) ≤ _); exact Nat.zero_le _)
  k_with "MyKSub" => (intro p77 hp77; (repeat (first | with_reducible exact hp77 | with_reducible refine List.mem_cons_of_mem _ ?_)); done)
  trivial
section
variable {prog : Program} {w : World} {A : Around} {E : Value → Shared → Prop} {s : Shared} {env : Env} {h₀ : Heap} {x : Str} {body : List Stmt} {Q : Flow → Shared → Prop}
theorem unrMono2 {L I : Addr} {it : Obj} {rest rest' : (Str → Option Value) → List (Addr × Obj) → Prop} {f : Flow} {s₁ s₂ : Shared} (hr : ∀ m nx, rest m nx → rest' m nx) (h : UnrPost h₀ L s₁ I it rest Q f s₂) : UnrPost h₀ L s₁ I it rest' Q f s₂ := by
  have go : UnrEnd h₀ L s₁ I it rest s₂ → UnrEnd h₀ L s₁ I it rest' s₂ := fun ⟨h', tk, m', nx, e, F, N, o, r⟩ => ⟨h', tk, m', nx, e, F, N, o, hr _ _ r⟩
  cases f with
  | ret v => exact h
  | brk => exact h
  | next => exact go h
  | cont => exact go h
/-- a loop over a list whose state may name new objects at each turn -/
theorem refInd {I : Addr} {lp : Addr × Obj} (R : List Value → (Str → Option Value) → List (Addr × Obj) → Prop) {l : List Value}
    (turn : ∀ (pre : List Value) (v : Value) (post : List Value) m news, l = pre ++ v :: post → R pre m news → ∀ (it : Obj) h tk, it.cls = .type "list_iterator" → Fr h₀ env.locals h (fun y => if y = x then some v else m y) → News h₀ env.locals h ((I, it) :: news) →
      wpAny (model prog w) A (execs body env) (UnrPost h₀ env.locals { s with heap := h, toks := tk } I it (fun m' n' => lp ∈ n' ∧ R (pre ++ [v]) m' n') Q) E { s with heap := h, toks := tk })
    (done : ∀ m news h tk, R l m news → Fr h₀ env.locals h m → News h₀ env.locals h news → Q .next { s with heap := h, toks := tk }) :
    ∀ (post pre : List Value) m news, l = pre ++ post → R pre m news → ListRest prog w A E h₀ env x body Q s I lp post m news
  | [], pre, m, news, e, r => .zero fun h tk F N => done m news h tk (by rw [e, List.append_nil]; exact r) F N
  | v :: post, pre, m, news, e, r => .succ fun it h tk hit F N =>
    wpAny_mono (turn pre v post m news e r it h tk hit F N) (fun _ _ z => unrMono2 (fun m' nx r' => ⟨r'.1, refInd R turn done post (pre ++ [v]) m' nx (by rw [e, List.append_assoc]; rfl) r'.2⟩) z) fun _ _ z => z
theorem unrEndC {L I : Addr} {it : Obj} {rest : (Str → Option Value) → List (Addr × Obj) → Prop} {s₁ : Shared} {h' : Heap} {tk : Nat} {m' : Str → Option Value} {all : List (Addr × Obj)} (F : Fr h₀ L h' m') (N : News h₀ L h' all) (news' : List (Addr × Obj))
    (hi : it.cls = .type "list_iterator") (hI : (I, it) ∈ all) (sub : ∀ p ∈ news', p ∈ all) (hc : ∀ p ∈ news', p.2.cls ≠ .type "list_iterator") (r : rest m' news') : UnrEnd h₀ L s₁ I it rest { s₁ with heap := h', toks := tk } :=
  UnrEnd.intro F N news' (fun p hp => by
    rcases List.mem_cons.mp hp with rfl | hp
    · exact hI
    · exact sub p hp) (fun p hp e => by
    have h1 := (N _ (sub p hp)).1
    have h2 := (N _ hI).1
    rw [e] at h1
    exact hc p hp ((congrArg Obj.cls (Option.some.inj (h1.symm.trans h2))).trans hi)) r
theorem newsIn {g h : Heap} {L : Addr} {p : Addr × Obj} {l : List (Addr × Obj)} (N : News g L h l) (hp : p ∈ l) : News g L h (p :: l) := fun q hq => by
  rcases List.mem_cons.mp hq with rfl | hq
  · exact N _ hp
  · exact N _ hq
end
theorem newsFront {g h : Heap} {L : Addr} {p : Addr × Obj} {l r : List (Addr × Obj)} (N : News g L h (p :: (l ++ r))) : News g L h (p :: l) := fun q hq => by
  rcases List.mem_cons.mp hq with rfl | hq
  · exact N _ (.head _)
  · exact N _ (.tail _ (List.mem_append_left _ hq))
/-- a symbol's tuple -/
structure Sy where
  (r : Addr) (c : Str) (n : Int) (t1 t2 : Tok) (k : Nat)
noncomputable abbrev Sy.ref (s : Sy) : Value := .ref s.r
noncomputable abbrev Sy.key (s : Sy) : Str × Int := (s.c, s.n)
noncomputable abbrev Sy.obj (s : Sy) : Addr × Obj := (s.r, tupOf [.str s.c s.t1, .int s.n s.t2] s.k)
noncomputable def syAll (S : List Sy) : List (Addr × Obj) := S.map Sy.obj
noncomputable def symStep (S : List (Str × Int)) (p : Str × Int × Int) : List (Str × Int) := match S.getLast? with
  | some q => if (q.1 == p.1) = true then S.dropLast ++ [(p.1, q.2 + p.2.1)] else S ++ [(p.1, p.2.1)]
  | none => [(p.1, p.2.1)]
section
open PyProof.Rows PySem.Spec PySem.SeqAt
theorem syReads {g h : Heap} {L : Addr} {news : List (Addr × Obj)} (N : News g L h news) : ∀ {S : List Sy}, (∀ p ∈ syAll S, p ∈ news) → ReadsAll h (S.map Sy.ref) (S.map fun t => PyData.tuple [.str t.c, .int t.n]) []
  | [], _ => .nil
  | t :: S, hs => by
    have q := ReadsAll.cons (Reads.tuple (N.get (hs t.obj (.head _))) rfl rfl (.cons (.str t.c t.t1) (.cons (.int t.n t.t2) .nil))) (syReads N fun p hp => hs p (.tail _ hp))
    simpa using q
theorem syLay : ∀ {S : List Sy}, (∀ t ∈ S, PyData.strOk t.c = true) → PyData.canLayAll0 (S.map fun t => PyData.tuple [.str t.c, .int t.n]) = true
  | [], _ => rfl
  | t :: S, hs => by
    have h1 := hs t (.head _)
    have h2 := syLay (S := S) fun x hx => hs x (.tail _ hx)
    simp [PyData.canLayAll0, PyData.canLay0, h1, h2]
theorem syDeep : ∀ {S : List Sy}, PyData.depthAll (S.map fun t => PyData.tuple [.str t.c, .int t.n]) ≤ 1
  | [] => by simp [PyData.depthAll]
  | t :: S => by
    have h2 := syDeep (S := S)
    simp only [List.map_cons, PyData.depthAll, PyData.depth]
    omega
theorem syShaped {S : List Sy} (hs : ∀ t ∈ S, PyData.strOk t.c = true) : shaped (.list (S.map fun t => PyData.tuple [.str t.c, .int t.n])) = true := by
  have h1 := syDeep (S := S)
  show (PyData.canLay0 (.list _) && decide (PyData.depth (.list _) ≤ 64)) = true
  rw [Bool.and_eq_true]
  refine ⟨by simp only [PyData.canLay0]; exact syLay hs, decide_eq_true ?_⟩
  simp only [PyData.depth]
  omega
theorem ne_syms {prog : Program} {w : World} {A : Around} {E : Value → Shared → Prop} {s : Shared} {g : Heap} {L fl e : Addr} {k k' : Nat} {news : List (Addr × Obj)} {S : List Sy} {Q : Value → Shared → Prop} (hs : ∀ t ∈ S, PyData.strOk t.c = true) (N : News g L s.heap news) (hf : (fl, listOf (S.map Sy.ref).toArray k) ∈ news) (he : (e, listOf #[] k') ∈ news)
    (hsub : ∀ p ∈ syAll S, p ∈ news) (hne : S ≠ []) (hu : A.units + 64 < cLine) (h : Q (.bool true) s) : wpAny (model prog w) A (compareOp .NotEq (.ref fl) (.ref e)) Q E s := by
  refine ne_dataH (reads_list_at (N.get hf) rfl rfl (syReads N hsub)) (reads_list_at (N.get he) rfl rfl .nil) (syShaped hs) rfl hu ?_
  cases S with
  | nil => exact absurd rfl hne
  | cons t S =>
    have e : PyData.eqv (.list (List.map (fun t => PyData.tuple [.str t.c, .int t.n]) (t :: S))) (.list []) = false := by simp [PyData.eqv, PyData.eqvAll]
    rw [e]; exact h
end
/-- never more than three symbols -/
noncomputable def symOk : List (Str × Int) → List (Str × Int × Int) → Bool
  | S, [] => decide (S.length ≤ 3)
  | S, p :: r => decide (S.length ≤ 3) && symOk (symStep S p) r
theorem symOk_le {S : List (Str × Int)} {r : List (Str × Int × Int)} (h : symOk S r = true) : S.length ≤ 3 := by
  cases r with
  | nil => exact of_decide_eq_true h
  | cons p r => exact of_decide_eq_true (Bool.and_eq_true_iff.mp h).1
/-- between the turns of symbols_of -/
structure SymR (w : World) (fl : Addr) (base : List (Addr × Obj)) (M : Str → Option Value) (L : List Sg) (F : List (Str × Int)) (pre : List Value) (m : Str → Option Value) (news : List (Addr × Obj)) : Prop where
  ex : ∃ (L1 L2 : List Sg) (S : List Sy) (k : Nat) (u : Option Value), L = L1 ++ L2 ∧ (∀ t ∈ S, PyData.strOk t.c = true) ∧ pre = L1.map Sg.ref ∧ symOk (S.map Sy.key) (L2.map Sg.key) = true ∧ (L2.map Sg.key).foldl symStep (S.map Sy.key) = F ∧
    news = (fl, listOf (S.map Sy.ref).toArray k) :: (syAll S ++ base) ∧ m = fun y => if y = Str.ofString "one" then u else M y
theorem splitRef {α : Type} {f : α → Value} {L1 L2 : List α} {v : Value} {post : List Value} (e : [] ++ (L1 ++ L2).map f = L1.map f ++ v :: post) : ∃ s L3, L2 = s :: L3 ∧ v = f s := by
  rw [List.nil_append, List.map_append, List.append_cancel_left_eq] at e
  cases L2 with
  | nil => cases e
  | cons s L3 => exact ⟨s, L3, rfl, (List.cons.inj e).1.symm⟩
theorem mOver {m : Str → Option Value} {x : Str} {u v : Option Value} : (fun y => if y = x then v else if y = x then u else m y) = fun y => if y = x then v else m y := by
  funext y
  by_cases hy : y = x
  · rw [if_pos hy, if_pos hy]
  · rw [if_neg hy, if_neg hy, if_neg hy]
theorem offCls {g h : Heap} {L : Addr} {b : Addr} {o : Obj} {own news : List (Addr × Obj)} (N : News g L h news) (hb : (b, o) ∈ news) (hs : ∀ p ∈ own, p ∈ news) (hc : ∀ p ∈ own, p.2.cls ≠ o.cls) : OwnOff own [b] := fun p hp b' hb' e => by
  rw [List.mem_singleton.mp hb'] at e
  exact newsNe N (hs p hp) hb (hc p hp) e
theorem sg_in {w : World} {L : List Sg} {s : Sg} (h : s ∈ L) : (s.x, instObj 348 s.d) ∈ sgAll w L ∧ (s.d, dictOf (sgEs w s.T s.c s.n s.i) 3) ∈ sgAll w L :=
  ⟨List.mem_flatMap.mpr ⟨s, h, .head _⟩, List.mem_flatMap.mpr ⟨s, h, .tail _ (.head _)⟩⟩
theorem sg_notList {w : World} {L : List Sg} : ∀ p ∈ sgAll w L, p.2.cls ≠ .type "list" := fun p hp => by
  rcases sgAll_cls hp with q | q
  · rw [q]; intro e; cases e
  · rw [q]; intro e; exact absurd (Value.type.inj e) (by decide)
theorem sg_notIter {w : World} {L : List Sg} : ∀ p ∈ sgAll w L, p.2.cls ≠ .type "list_iterator" := fun p hp => by
  rcases sgAll_cls hp with q | q
  · rw [q]; intro e; cases e
  · rw [q]; intro e; exact absurd (Value.type.inj e) (by decide)
theorem sy_ne {g h : Heap} {L fl : Addr} {vs : Array Value} {k : Nat} {S : List Sy} {news : List (Addr × Obj)} (N : News g L h news) (hb : (fl, listOf vs k) ∈ news) (hs : ∀ p ∈ syAll S, p ∈ news) : ∀ t ∈ S, @Ne Nat t.r fl := fun t ht =>
  newsNe N (hs _ (List.mem_map.mpr ⟨t, ht, rfl⟩)) hb (by intro e; exact absurd (Value.type.inj e) (by decide))
theorem mSelf (m : Str → Option Value) (x : Str) : m = fun y => if y = x then m x else m y := by
  funext y
  by_cases hy : y = x
  · rw [if_pos hy, hy]
  · rw [if_neg hy]
theorem SymR.start {w : World} {fl : Addr} {base : List (Addr × Obj)} {m : Str → Option Value} {L : List Sg} {F : List (Str × Int)} (h1 : symOk [] (L.map Sg.key) = true) (h2 : (L.map Sg.key).foldl symStep [] = F) :
    SymR w fl base m L F [] m ((fl, listOf #[] 0) :: base) := ⟨[], L, [], 0, m (Str.ofString "one"), rfl, (fun _ h => nomatch h), rfl, h1, h2, rfl, mSelf m _⟩
theorem symEnd {w : World} {g h' : Heap} {L' fl l I : Addr} {lo it : Obj} {L L1 L3 : List Sg} {s1 : Sg} {S S0 : List Sy} {F : List (Str × Int)} {M m' : Str → Option Value} {all : List (Addr × Obj)} {s₁ : Shared} {tk k' : Nat} (new : Sy) (u : Option Value)
    (FE : Fr g L' h' m') (NE : News g L' h' all) (hit : it.cls = .type "list_iterator") (hlo : lo.cls = .type "list") (hL : L = L1 ++ s1 :: L3) (hI : (I, it) ∈ all) (hnew : new.obj ∈ all) (hsn : PyData.strOk new.c = true) (hss : ∀ t ∈ S0, PyData.strOk t.c = true) (hS0 : ∀ p ∈ syAll S0, p ∈ all)
    (hfl : (fl, listOf (S0.map Sy.ref ++ [new.ref]).toArray k') ∈ all) (hb : ∀ p ∈ (l, lo) :: sgAll w L, p ∈ all) (hok : symOk (S.map Sy.key) ((s1 :: L3).map Sg.key) = true) (hfold : ((s1 :: L3).map Sg.key).foldl symStep (S.map Sy.key) = F)
    (hstep : symStep (S.map Sy.key) s1.key = S0.map Sy.key ++ [new.key]) (hm : m' = fun y => if y = Str.ofString "one" then u else M y) :
    UnrEnd g L' s₁ I it (fun m' n' => (l, lo) ∈ n' ∧ SymR w fl ((l, lo) :: sgAll w L) M L F (L1.map Sg.ref ++ [s1.ref]) m' n') { s₁ with heap := h', toks := tk } := by
  have e : (S0 ++ [new]).map Sy.key = symStep (S.map Sy.key) s1.key := by rw [List.map_append, hstep]; rfl
  have eb : syAll (S0 ++ [new]) = syAll S0 ++ [new.obj] := by rw [syAll, syAll, List.map_append]; rfl
  refine unrEndC FE NE ((fl, listOf ((S0 ++ [new]).map Sy.ref).toArray k') :: (syAll (S0 ++ [new]) ++ (l, lo) :: sgAll w L)) hit hI ?_ ?_ ⟨.tail _ (List.mem_append_right _ (.head _)), ⟨L1 ++ [s1], L3, S0 ++ [new], k', u, by rw [hL, List.append_assoc]; rfl, (fun t ht => by rcases List.mem_append.mp ht with ht | ht; exact hss t ht; rw [List.mem_singleton.mp ht]; exact hsn), by rw [List.map_append]; rfl, ?_, ?_, rfl, hm⟩⟩
  · intro p hp
    rcases List.mem_cons.mp hp with rfl | hp
    · rw [List.map_append]; exact hfl
    · rcases List.mem_append.mp hp with hp | hp
      · rw [eb] at hp
        rcases List.mem_append.mp hp with hp | hp
        · exact hS0 p hp
        · rw [List.mem_singleton.mp hp]; exact hnew
      · exact hb p hp
  · intro p hp
    rcases List.mem_cons.mp hp with rfl | hp
    · intro q; exact absurd (Value.type.inj q) (by decide)
    · rcases List.mem_append.mp hp with hp | hp
      · obtain ⟨t, _, rfl⟩ := List.mem_map.mp hp
        intro q; exact absurd (Value.type.inj q) (by decide)
      · rcases List.mem_cons.mp hp with rfl | hp
        · rw [hlo]; intro q; exact absurd (Value.type.inj q) (by decide)
        · exact sg_notIter p hp
  · rw [e]
    have h := (Bool.and_eq_true_iff.mp hok).2
    exact h
  · rw [e]; exact hfold
theorem kw_64_sym_a : True := by
  k_with "MyTail" => (intro p hp; repeat' (first | exact hp | exact List.mem_append_right _ hp | refine List.Mem.tail _ ?_))
  k_with "compareOp NotEq ref ref" => (k_dflt (k_here; (rename (∀ t ∈ _, PyData.strOk (Sy.c t) = true) => hs9); (with_reducible rename News _ _ _ _ => N9); (refine ne_syms hs9 N9 (by k_mem) (by k_mem) (by walk_at "MySub") (List.cons_ne_nil _ _) (by ktr_units) ?_)))
  k_with "MySub" => (dsimp only [syAll, List.map_cons, List.map_nil]; repeat' (first | exact List.forall_mem_nil _ | (refine List.forall_mem_cons.mpr ⟨by k_mem, ?_⟩)))
  trivial
section
variable {w : World} {mean : ExcName → Option Value} {mg mb : Str → Option Value}
theorem symbols_of_does (l : Addr) (kk : Nat) (L : List Sg) (F₀ : List (Str × Int)) (hn : L.length ≤ 40) (hstr : ∀ s ∈ L, PyData.strOk s.c = true) (h1 : symOk [] (L.map Sg.key) = true) (h2 : (L.map Sg.key).foldl symStep [] = F₀) :
    Does w mean mg mb 378 12 [.ref l] ((l, listOf (L.map Sg.ref).toArray kk) :: sgAll w L) (fun nw v => ∃ fl k S, nw = (fl, listOf (S.map Sy.ref).toArray k) :: syAll S ∧ v = .ref fl ∧ S.map Sy.key = F₀) := by
  refine unBox ?_
  simp (zetaDelta := true) (disch := (k_dflt (
    refine inBox ?_
    intro dp un gd cn cs a ccd cl outer A₀ base h₀ L' m s Q E B F X N T hk hd hu hret
    have cE := InElt.start s.heap
    walk_at "MyEnter"
    repeat ((fail_if_success (with_reducible show wpAny _ _ (exec (Stmt.For _ _ _ _ _) _) _ _ _)); (first | k_extra "MyQ" | (k_unfold; (try dsimp only)) | walk1 | (dsimp only; walk1)))
    rename Fr _ _ _ _ => F0
    refine' For_invVF F0 ?k1 ?k2 ?_
    case k1 => exact rfl
    case k2 => exact rfl
    repeat ((fail_if_success (with_reducible show wpAny _ _ (pyIter _) _ _ _)); (first | k_extra "MyQ" | (k_unfold; (try dsimp only)) | walk1 | (dsimp only; walk1)))
    rename Fr _ _ _ _ => F1
    rename News _ _ _ _ => N1
    refine iter_listUnr (lo := listOf (L.map Sg.ref).toArray kk) (vs := L.map Sg.ref) (n := kk) rfl F1 N1 (.tail _ (.head _)) rfl rfl (fun I lI => ?_)
    refine refInd (SymR w _ _ _ L F₀) ?turn ?done (L.map Sg.ref) [] _ _ rfl (SymR.start h1 h2)
    case turn =>
      clear F1 N1
      rintro pre v post m1 news1 e1 ⟨L1, L2, S, k, u, hL, hss, hpre, hok, hfold, rfl, rfl⟩ it h1' tk1 hit F2 N2
      subst hL hpre
      obtain ⟨s1, L3, rfl, rfl⟩ := splitRef e1
      have hs1 := hstr s1 (by simp)
      have hin := sg_in (w := w) (L := L1 ++ s1 :: L3) (s := s1) (by simp)
      have hoff := offCls (own := sgAll w (L1 ++ s1 :: L3)) N2 (.tail _ (.head _)) (fun p hp => .tail _ (.tail _ (List.mem_append_right _ (.tail _ hp)))) sg_notList
      have hne := sy_ne N2 (.tail _ (.head _)) (fun p hp => .tail _ (.tail _ (List.mem_append_left _ hp)))
      have hIx := newsNe N2 (.head _) (.tail _ (.head _)) (by rw [hit]; intro e; exact absurd (Value.type.inj e) (by decide))
      have hx1 := hoff.ne (.head _) _ hin.1
      have hx2 := hoff.ne (.head _) _ hin.2
      have N3 := newsIn (newsIn N2 (.tail _ (.tail _ (List.mem_append_right _ (.tail _ hin.2))))) (.tail _ (.tail _ (.tail _ (List.mem_append_right _ (.tail _ hin.1)))))
      clear N2
      dsimp only at hx1 hx2
      have dN := N3
      clear N3
      have hs8 := hss
      rcases S with _ | ⟨a, _ | ⟨b, _ | ⟨c, _ | ⟨d, S⟩⟩⟩⟩
      · simp only [syAll, List.map_cons, List.map_nil, List.cons_append, List.nil_append, Sy.ref, Sy.obj] at dN
        (try k_fold)
        k_steps
        rename Fr _ _ _ _ => FE
        rename News _ _ _ _ => NE
        exact symEnd (S := []) (S0 := []) ⟨_, s1.c, s1.n, _, _, 0⟩ _ FE NE hit rfl rfl (by k_mem) (.head _) hs1 (fun _ h => nomatch h) (by walk_at "MySub") (by k_mem) (by walk_at "MyTail") hok hfold rfl mOver
      · have na := hne a (.head _)
        simp only [syAll, List.map_cons, List.map_nil, List.cons_append, List.nil_append, Sy.ref, Sy.obj] at dN
        by_cases hc : (a.c == s1.c) = true
        · (try k_fold)
          k_steps
          rename Fr _ _ _ _ => FE
          rename News _ _ _ _ => NE
          exact symEnd (S := [a]) (S0 := []) ⟨_, s1.c, a.n + s1.n, _, _, 0⟩ _ FE NE hit rfl rfl (by k_mem) (.head _) hs1 (fun t ht => hss t (List.mem_append_left [a] ht)) (by walk_at "MySub") (by k_mem) (by walk_at "MyTail") hok hfold (if_pos hc) mOver
        · rw [Bool.not_eq_true] at hc
          (try k_fold)
          k_steps
          rename Fr _ _ _ _ => FE
          rename News _ _ _ _ => NE
          exact symEnd (S := [a]) (S0 := [a]) ⟨_, s1.c, s1.n, _, _, 0⟩ _ FE NE hit rfl rfl (by k_mem) (.head _) hs1 hss (by walk_at "MySub") (by k_mem) (by walk_at "MyTail") hok hfold (if_neg (fun q => Bool.false_ne_true (hc.symm.trans q))) mOver
      · have na := hne a (.head _); have nb := hne b (.tail _ (.head _))
        simp only [syAll, List.map_cons, List.map_nil, List.cons_append, List.nil_append, Sy.ref, Sy.obj] at dN
        by_cases hc : (b.c == s1.c) = true
        · (try k_fold)
          k_steps
          rename Fr _ _ _ _ => FE
          rename News _ _ _ _ => NE
          exact symEnd (S := [a, b]) (S0 := [a]) ⟨_, s1.c, b.n + s1.n, _, _, 0⟩ _ FE NE hit rfl rfl (by k_mem) (.head _) hs1 (fun t ht => hss t (List.mem_append_left [b] ht)) (by walk_at "MySub") (by k_mem) (by walk_at "MyTail") hok hfold (if_pos hc) mOver
        · rw [Bool.not_eq_true] at hc
          (try k_fold)
          k_steps
          rename Fr _ _ _ _ => FE
          rename News _ _ _ _ => NE
          exact symEnd (S := [a, b]) (S0 := [a, b]) ⟨_, s1.c, s1.n, _, _, 0⟩ _ FE NE hit rfl rfl (by k_mem) (.head _) hs1 hss (by walk_at "MySub") (by k_mem) (by walk_at "MyTail") hok hfold (if_neg (fun q => Bool.false_ne_true (hc.symm.trans q))) mOver
      · have na := hne a (.head _); have nb := hne b (.tail _ (.head _)); have nc := hne c (.tail _ (.tail _ (.head _)))
        simp only [syAll, List.map_cons, List.map_nil, List.cons_append, List.nil_append, Sy.ref, Sy.obj] at dN
        by_cases hc : (c.c == s1.c) = true
        · (try k_fold)
          k_steps
          rename Fr _ _ _ _ => FE
          rename News _ _ _ _ => NE
          exact symEnd (S := [a, b, c]) (S0 := [a, b]) ⟨_, s1.c, c.n + s1.n, _, _, 0⟩ _ FE NE hit rfl rfl (by k_mem) (.head _) hs1 (fun t ht => hss t (List.mem_append_left [c] ht)) (by walk_at "MySub") (by k_mem) (by walk_at "MyTail") hok hfold (if_pos hc) mOver
        · rw [Bool.not_eq_true] at hc
          have q := symOk_le (Bool.and_eq_true_iff.mp hok).2
          rw [show symStep (List.map Sy.key [a, b, c]) s1.key = _ from if_neg (fun q => Bool.false_ne_true (hc.symm.trans q))] at q
          exact absurd q (by simp)
      · have q := symOk_le hok
        simp at q
    case done => 
      clear F1 N1
      rintro m1 news1 h1' tk1 ⟨L1, L2, S, k, u, hL, hss, hpre, hok, hfold, rfl, rfl⟩ F2 N2
      have hL2 : L2 = [] := by
        have e := congrArg List.length hpre
        rw [List.nil_append, hL] at e
        simp at e
        exact e
      subst hL2
      (try k_fold)
      k_steps
      exact hret _ _ _ _ (by assumption) (newsFront (by assumption)) ⟨_, _, S, rfl, rfl, hfold⟩
    ))) only [↓Box.of]
end
end
section
theorem kw_65_take : True := by
  k_with_none
  k_with "MyEnter" => (refine wpAny_call ?_; k_dflt (refine' code_defG ?k1 ?k2 ?k3 ?k4 ?k5 ?kA ?kF ?kK ?k6 ?k7 ?k8 ?k9 ?kB ?_ ?c2 ?c3 ?c4 ?c5; (case kA => exact rfl); (case kF => exact rfl); (case kK => assumption); (case k1 => k_asm); (case k2 => k_asm); (case k3 => k_asm); (case k4 => k_asm); (case k5 => k_asm); (case k6 => k_is); (case k7 => k_is); (case k8 => ktr_room); (case k9 => first | exact BindsTo.of_eq rfl | exact binds_K (by k_in) rfl (by k_is) rfl rfl rfl); (case c5 => decide); (case kB => exact locs rfl); (case c2 => exact rfl); (case c3 => exact rfl); (case c4 => exact rfl); k_whole; intro g' L' h' FG' F' N' B' X' T' kG'; (try dsimp only); (try k_lift B'); (try k_fold)))
  k_with "binaryOp FloorDiv int int" => (k_here; (with_reducible refine floordiv_int ?d0 ?_ (Or.inl ?d1)); (case d0 => first | with_reducible assumption | decide | omega); (case d1 => first | with_reducible assumption | exact PyProof.noPylong_of_log2 (by decide +kernel)))
  k_with "MyKEnter" => ((fail_if_success k_inElt); (refine' code_defC ?k1 ?k2 ?k3 ?k4 ?k5 ?kA ?kF ?kK ?k6 ?k7 ?k8 ?k9 ?kB ?kD ?_ ?c2 ?c3 ?c4; (case kA => exact rfl); (case kF => exact rfl); (case kK => exact rfl); (case k1 => k_asm); (case k2 => k_asm); (case k3 => k_asm); (case k4 => k_asm); (case k5 => k_asm); (case k6 => k_is); (case k7 => k_is); (case k8 => ktr_room); (case k9 => first | exact BindsTo.of_eq rfl | exact binds_K (by k_in) rfl (by k_is) rfl rfl rfl | fail "k_enter: no rule for these arguments"); (case kB => exact rfl); (case kD => decide +kernel); (case c2 => exact rfl); (case c3 => exact rfl); (case c4 => exact rfl); k_whole; intro g' L' h' tk' cells' FG' F' N' Y' B' X' T' l1; (try k_lt l1); k_cells Y'; (try simp only [List.cons_append, List.nil_append] at N'); (try dsimp only); (try k_lift B'); (try k_fold)))
  k_with "MyKEnter" => ((fail_if_success k_inElt); (refine' code_def ?k1 ?k2 ?k3 ?k4 ?k5 ?kA ?kF ?kK ?k6 ?k7 ?k8 ?k9 ?kB ?_ ?c2 ?c3 ?c4 ?c5; (case kA => exact rfl); (case kF => exact rfl); (case kK => exact rfl); (case k1 => k_asm); (case k2 => k_asm); (case k3 => k_asm); (case k4 => k_asm); (case k5 => k_asm); (case k6 => k_is); (case k7 => k_is); (case k8 => ktr_room); (case k9 => first | exact BindsTo.of_eq rfl | exact binds_K (by k_in) rfl (by k_is) rfl rfl rfl | fail "k_enter: no rule for these arguments"); (case c5 => decide); (case kB => exact locs rfl); (case c2 => exact rfl); (case c3 => exact rfl); (case c4 => exact rfl); k_whole; intro g' L' h' FG' F' N' B' X' T'; (try dsimp only); (try k_lift B'); (try k_fold)))
  k_with "MyPre" => first | with_reducible assumption | omega | with_reducible decide | fail "MyPre"
  k_with "execs cons" => ((fail_if_success k_inElt); first | (with_reducible refine consQ (by with_reducible assumption) (fun Q9 hQ9 => ?_)) | (with_reducible refine consQQ (fun Q8 hQ8 Q9 hQ9 => ?_)))
  k_with "execs cons" => (k_made; walk_at "execs cons")
  k_with "execs cons" => ((with_reducible show wpAny _ _ _ _ _ (Shared.mk _ _ _ (@HAdd.hAdd Nat Nat Nat _ _ _) _)); refine stGen s rfl rfl rfl (fun tk9 => ?_); (try dsimp only))
  k_with "MyQ" => ((fail_if_success (with_reducible show wpAny _ _ _ _ _ _)); (with_reducible first | refine qNext (by with_reducible assumption) ?_ | refine qRet (by with_reducible assumption) ?_ | refine qBrk (by with_reducible assumption) ?_ | refine qCont (by with_reducible assumption) ?_ | refine qGen (by with_reducible assumption) ?_); (try dsimp only))
  k_with "MyAll" => first | k_extra "MyQ" | (k_unfold; (try dsimp only)) | (k_end; kc_close) | walk1 | (dsimp only; walk1) | (leave1; walk_say "STEP leave1"; (try dsimp only)) | fail "no step"
  k_with "eval Name" => (k_here; (with_reducible show wpAny _ _ (eval (Expr.Name _ _) (envOf _ _ _ _ _)) _ _ _); k_dflt (refine' ld ?k1 ?k2 ?_ rfl (by kernel_rfl!) (by kernel_rfl!); (case k1 => k_asm); (case k2 => exact rfl); k_whole))
  k_with "MySize" => ((with_reducible show List.length (List.nil) ≤ _); exact Nat.zero_le _)
  k_with "MyKSub" => (intro p77 hp77; (repeat (first | with_reducible exact hp77 | with_reducible refine List.mem_cons_of_mem _ ?_)); done)
  trivial
/-- a call that changes objects of its ledger: N0, and own, which stays -/
noncomputable def DoesL (w : World) (mean : ExcName → Option Value) (mg mb : Str → Option Value) (f : Addr) (deep : Nat) (vs : List Value) (N0 : List (Addr × Obj)) (ch : List Addr) (post : List (Addr × Obj) → Value → Prop) : Prop :=
  ∀ (dp un : Nat) (gd : Option (List Code)) (cn : Str) (cs : Scope) (a : Addr) (ccd : Value) (cl : List (Str × Addr)) (outer : List Env) (A₀ : Around) (base h₀ : Heap) (L : Addr) (m : Str → Option Value) (s : Shared) (Q E : Value → Shared → Prop) (own : List (Addr × Obj)),
    Below A₀ base outer h₀ → Fr h₀ L s.heap m → (hdK w.params).In h₀ → News h₀ L s.heap (N0 ++ own) → OwnOff own ch → Top hdV LW mean mg mb h₀ → cs.kind = .function →
    dp + deep < recursionLimit → un + 8 * deep < cLine →
    (∀ v h' tk' N1, Fr h₀ L h' m → News h₀ L h' (N1 ++ own) → post N1 v → Q v { s with heap := h', toks := tk' }) →
    wpAny (model PR w) (ktrTop dp un gd cn cs L a ccd cl outer) (call (.ref f) vs) Q E s
theorem DoesL.use {w : World} {mean : ExcName → Option Value} {mg mb : Str → Option Value} {f : Addr} {deep : Nat} {vs : List Value} {N0 news own : List (Addr × Obj)} {ch : List Addr} {post : List (Addr × Obj) → Value → Prop}
    {dp un : Nat} {gd : Option (List Code)} {cn : Str} {cs : Scope} {a : Addr} {ccd : Value} {cl : List (Str × Addr)} {outer : List Env} {A₀ : Around} {base h₀ : Heap} {L : Addr} {m : Str → Option Value} {s : Shared} {Q E : Value → Shared → Prop}
    (B : Below A₀ base outer h₀) (F : Fr h₀ L s.heap m) (X : (hdK w.params).In h₀) (N : News h₀ L s.heap news) (T : Top hdV LW mean mg mb h₀) (hk : cs.kind = .function)
    (C : DoesL w mean mg mb f deep vs N0 ch post) (hs : ∀ p ∈ N0, p ∈ news) (ho : ∀ p ∈ own, p ∈ news) (hoff : OwnOff own ch) (hdp : dp + deep < recursionLimit) (hu : un + 8 * deep < cLine)
    (h : ∀ v h' tk' N1, Fr h₀ L h' m → News h₀ L h' (N1 ++ own) → post N1 v → Q v { s with heap := h', toks := tk' }) :
    wpAny (model PR w) (ktrTop dp un gd cn cs L a ccd cl outer) (call (.ref f) vs) Q E s :=
  C _ _ _ _ _ _ _ _ _ _ _ _ _ _ _ _ _ own B F X (fun p hp => N p ((List.mem_append.mp hp).elim (hs p) (ho p))) hoff T hk hdp hu h
/-- an order takes a sign -/
noncomputable def takeStep (st : OrS) (c : Str) (n : Int) : Option OrS :=
  if c = Str.ofString "S" then (if st.plain = false ∧ st.seen = 0 then some { st with seen := st.seen + 1, plain := true, last := c } else none)
  else if c = Str.ofString "9" then (if st.trail = 0 then some { st with seen := st.seen + 1, nines := st.nines + n, behind := if (st.point != Str.ofString "") = true then st.behind + n else st.behind, last := c } else none)
  else if c = Str.ofString "P" then
    (if 0 < st.nines then (if st.point = Str.ofString "" ∧ st.lead = 0 then some { st with seen := st.seen + 1, trail := st.trail + n, last := c } else none)
     else (if st.nines = 0 ∧ st.point = Str.ofString "" then some { st with seen := st.seen + 1, lead := st.lead + n, last := c } else none))
  else if c = Str.ofString "V" then (if st.point = Str.ofString "" ∧ st.lead = 0 then some { st with seen := st.seen + 1, point := c, last := c } else none)
  else none
section
variable {w : World} {mean : ExcName → Option Value} {mg mb : Str → Option Value}
theorem take_S (o od x d : Addr) (T : OrT) (st : OrS) (T0 : SgT) (n i : Int) (ho : @Ne Nat od o) (hx : @Ne Nat od x) (hd' : @Ne Nat od d) (h1 : st.plain = false) (h2 : st.seen = 0) :
    DoesL w mean mg mb 488 6 [.ref o, .ref x] [(o, instObj 505 od), (od, dictOf (orEs w T st) 16), (x, instObj 348 d), (d, dictOf (sgEs w T0 (Str.ofString "S") n i) 3)] [od]
      (fun N1 v => v = .none ∧ ∃ T', N1 = [(o, instObj 505 od), (od, dictOf (orEs w T' { st with seen := st.seen + 1, plain := true, last := Str.ofString "S" }) 16), (x, instObj 348 d), (d, dictOf (sgEs w T0 (Str.ofString "S") n i) 3)]) := by
  refine unBox ?_
  simp (zetaDelta := true) (disch := (k_dflt (
    refine inBox ?_
    intro dp un gd cn cs a ccd cl outer A₀ base h₀ L' m s Q E own B F X N hoff T hk hd hu hret
    simp only [List.cons_append, List.nil_append] at N
    have cE := InElt.start s.heap
    walk_at "MyEnter"
    repeat ((fail_if_success (with_reducible show wpAny _ _ (exec (Stmt.If (Expr.BoolOp _ _ _) _ _ _) _) _ _ _)); (first | k_extra "MyQ" | (k_unfold; (try dsimp only)) | walk1 | (dsimp only; walk1)))
    rename Fr _ _ _ _ => F9
    rename News _ _ _ _ => N9
    refine joinStay F9 N9 ?chk ?go
    case chk =>
      k_steps
      all_goals (rename News _ _ _ _ => NZ)
      all_goals exact StayP.mk' rfl (by assumption) (cb_drop NZ (fun p hp => by repeat (first | exact hp | refine List.Mem.tail _ ?_)))
    clear F9 N9
    rintro h9 tk9 F9 N9
    k_steps
    all_goals rename News _ _ _ _ => NX
    all_goals rename Fr _ _ _ _ => FX
    all_goals refine' hret .none _ _ [_, _, _, _] FX (by intro p hp; refine NX p ?_; first | exact hp | exact .tail _ hp | exact .tail _ (.tail _ hp) | exact .tail _ (.tail _ (.tail _ hp)) | exact .tail _ (.tail _ (.tail _ (.tail _ hp)))) ⟨rfl, ⟨_, _, _, _, _, _, _, _, _, _, _, _, _, _, _, _, _, _, _, _, _, _, _, _, _, _, _, _⟩, ?_⟩
    all_goals (try (dsimp only [orEs]; exact rfl))
    ))) only [↓Box.of]
theorem take_V (o od x d : Addr) (T : OrT) (st : OrS) (T0 : SgT) (n i : Int) (ho : @Ne Nat od o) (hx : @Ne Nat od x) (hd' : @Ne Nat od d) (hp : st.point = Str.ofString "") (h2 : st.lead = 0) :
    DoesL w mean mg mb 488 6 [.ref o, .ref x] [(o, instObj 505 od), (od, dictOf (orEs w T st) 16), (x, instObj 348 d), (d, dictOf (sgEs w T0 (Str.ofString "V") n i) 3)] [od]
      (fun N1 v => v = .none ∧ ∃ T', N1 = [(o, instObj 505 od), (od, dictOf (orEs w T' { st with seen := st.seen + 1, point := Str.ofString "V", last := Str.ofString "V" }) 16), (x, instObj 348 d), (d, dictOf (sgEs w T0 (Str.ofString "V") n i) 3)]) := by
  refine unBox ?_
  simp (zetaDelta := true) (disch := (k_dflt (
    refine inBox ?_
    have hp1 : (st.point != Str.ofString "") = false := by rw [hp]; decide +kernel
    have hp2 : (st.point == Str.ofString ".") = false := by rw [hp]; decide +kernel
    intro dp un gd cn cs a ccd cl outer A₀ base h₀ L' m s Q E own B F X N hoff T hk hd hu hret
    simp only [List.cons_append, List.nil_append] at N
    have cE := InElt.start s.heap
    walk_at "MyEnter"
    repeat ((fail_if_success (with_reducible show wpAny _ _ (exec (Stmt.If (Expr.BoolOp _ _ _) _ _ _) _) _ _ _)); (first | k_extra "MyQ" | (k_unfold; (try dsimp only)) | walk1 | (dsimp only; walk1)))
    rename Fr _ _ _ _ => F9
    rename News _ _ _ _ => N9
    refine joinStay F9 N9 ?chk ?go
    case chk =>
      k_steps
      all_goals (rename News _ _ _ _ => NZ)
      all_goals exact StayP.mk' rfl (by assumption) (cb_drop NZ (fun p hp => by repeat (first | exact hp | refine List.Mem.tail _ ?_)))
    clear F9 N9
    rintro h9 tk9 F9 N9
    k_steps
    all_goals rename News _ _ _ _ => NX
    all_goals rename Fr _ _ _ _ => FX
    all_goals refine' hret .none _ _ [_, _, _, _] FX (by intro p hp; refine NX p ?_; first | exact hp | exact .tail _ hp | exact .tail _ (.tail _ hp) | exact .tail _ (.tail _ (.tail _ hp)) | exact .tail _ (.tail _ (.tail _ (.tail _ hp)))) ⟨rfl, ⟨_, _, _, _, _, _, _, _, _, _, _, _, _, _, _, _, _, _, _, _, _, _, _, _, _, _, _, _⟩, ?_⟩
    all_goals (try (dsimp only [orEs]; exact rfl))
    ))) only [↓Box.of]
theorem take_Pt (o od x d : Addr) (T : OrT) (st : OrS) (T0 : SgT) (n i : Int) (ho : @Ne Nat od o) (hx : @Ne Nat od x) (hd' : @Ne Nat od d) (h0 : 0 < st.nines) (hp : st.point = Str.ofString "") (h2 : st.lead = 0) :
    DoesL w mean mg mb 488 6 [.ref o, .ref x] [(o, instObj 505 od), (od, dictOf (orEs w T st) 16), (x, instObj 348 d), (d, dictOf (sgEs w T0 (Str.ofString "P") n i) 3)] [od]
      (fun N1 v => v = .none ∧ ∃ T', N1 = [(o, instObj 505 od), (od, dictOf (orEs w T' { st with seen := st.seen + 1, trail := st.trail + n, last := Str.ofString "P" }) 16), (x, instObj 348 d), (d, dictOf (sgEs w T0 (Str.ofString "P") n i) 3)]) := by
  refine unBox ?_
  simp (zetaDelta := true) (disch := (k_dflt (
    refine inBox ?_
    have hp1 : (st.point != Str.ofString "") = false := by rw [hp]; decide +kernel
    have hp2 : (st.point == Str.ofString ".") = false := by rw [hp]; decide +kernel
    intro dp un gd cn cs a ccd cl outer A₀ base h₀ L' m s Q E own B F X N hoff T hk hd hu hret
    simp only [List.cons_append, List.nil_append] at N
    have cE := InElt.start s.heap
    walk_at "MyEnter"
    repeat ((fail_if_success (with_reducible show wpAny _ _ (exec (Stmt.If (Expr.BoolOp _ _ _) _ _ _) _) _ _ _)); (first | k_extra "MyQ" | (k_unfold; (try dsimp only)) | walk1 | (dsimp only; walk1)))
    rename Fr _ _ _ _ => F9
    rename News _ _ _ _ => N9
    refine joinStay F9 N9 ?chk ?go
    case chk =>
      k_steps
      all_goals (rename News _ _ _ _ => NZ)
      all_goals exact StayP.mk' rfl (by assumption) (cb_drop NZ (fun p hp => by repeat (first | exact hp | refine List.Mem.tail _ ?_)))
    clear F9 N9
    rintro h9 tk9 F9 N9
    k_steps
    all_goals rename News _ _ _ _ => NX
    all_goals rename Fr _ _ _ _ => FX
    all_goals refine' hret .none _ _ [_, _, _, _] FX (by intro p hp; refine NX p ?_; first | exact hp | exact .tail _ hp | exact .tail _ (.tail _ hp) | exact .tail _ (.tail _ (.tail _ hp)) | exact .tail _ (.tail _ (.tail _ (.tail _ hp)))) ⟨rfl, ⟨_, _, _, _, _, _, _, _, _, _, _, _, _, _, _, _, _, _, _, _, _, _, _, _, _, _, _, _⟩, ?_⟩
    all_goals (try (dsimp only [orEs]; exact rfl))
    ))) only [↓Box.of]
theorem take_Pl (o od x d : Addr) (T : OrT) (st : OrS) (T0 : SgT) (n i : Int) (ho : @Ne Nat od o) (hx : @Ne Nat od x) (hd' : @Ne Nat od d) (h0 : st.nines = 0) (hp : st.point = Str.ofString "") :
    DoesL w mean mg mb 488 6 [.ref o, .ref x] [(o, instObj 505 od), (od, dictOf (orEs w T st) 16), (x, instObj 348 d), (d, dictOf (sgEs w T0 (Str.ofString "P") n i) 3)] [od]
      (fun N1 v => v = .none ∧ ∃ T', N1 = [(o, instObj 505 od), (od, dictOf (orEs w T' { st with seen := st.seen + 1, lead := st.lead + n, last := Str.ofString "P" }) 16), (x, instObj 348 d), (d, dictOf (sgEs w T0 (Str.ofString "P") n i) 3)]) := by
  refine unBox ?_
  simp (zetaDelta := true) (disch := (k_dflt (
    refine inBox ?_
    have hp1 : (st.point != Str.ofString "") = false := by rw [hp]; decide +kernel
    have hp2 : (st.point == Str.ofString ".") = false := by rw [hp]; decide +kernel
    intro dp un gd cn cs a ccd cl outer A₀ base h₀ L' m s Q E own B F X N hoff T hk hd hu hret
    simp only [List.cons_append, List.nil_append] at N
    have cE := InElt.start s.heap
    walk_at "MyEnter"
    repeat ((fail_if_success (with_reducible show wpAny _ _ (exec (Stmt.If (Expr.BoolOp _ _ _) _ _ _) _) _ _ _)); (first | k_extra "MyQ" | (k_unfold; (try dsimp only)) | walk1 | (dsimp only; walk1)))
    rename Fr _ _ _ _ => F9
    rename News _ _ _ _ => N9
    refine joinStay F9 N9 ?chk ?go
    case chk =>
      k_steps
      all_goals (rename News _ _ _ _ => NZ)
      all_goals exact StayP.mk' rfl (by assumption) (cb_drop NZ (fun p hp => by repeat (first | exact hp | refine List.Mem.tail _ ?_)))
    clear F9 N9
    rintro h9 tk9 F9 N9
    k_steps
    all_goals rename News _ _ _ _ => NX
    all_goals rename Fr _ _ _ _ => FX
    all_goals refine' hret .none _ _ [_, _, _, _] FX (by intro p hp; refine NX p ?_; first | exact hp | exact .tail _ hp | exact .tail _ (.tail _ hp) | exact .tail _ (.tail _ (.tail _ hp)) | exact .tail _ (.tail _ (.tail _ (.tail _ hp)))) ⟨rfl, ⟨_, _, _, _, _, _, _, _, _, _, _, _, _, _, _, _, _, _, _, _, _, _, _, _, _, _, _, _⟩, ?_⟩
    all_goals (try (dsimp only [orEs]; exact rfl))
    ))) only [↓Box.of]
theorem take_9a (o od x d : Addr) (T : OrT) (st : OrS) (T0 : SgT) (n i : Int) (ho : @Ne Nat od o) (hx : @Ne Nat od x) (hd' : @Ne Nat od d) (h0 : st.trail = 0) (h1 : (st.point != Str.ofString "") = true) :
    DoesL w mean mg mb 488 6 [.ref o, .ref x] [(o, instObj 505 od), (od, dictOf (orEs w T st) 16), (x, instObj 348 d), (d, dictOf (sgEs w T0 (Str.ofString "9") n i) 3)] [od]
      (fun N1 v => v = .none ∧ ∃ T', N1 = [(o, instObj 505 od), (od, dictOf (orEs w T' { st with seen := st.seen + 1, nines := st.nines + n, behind := st.behind + n, last := Str.ofString "9" }) 16), (x, instObj 348 d), (d, dictOf (sgEs w T0 (Str.ofString "9") n i) 3)]) := by
  refine unBox ?_
  simp (zetaDelta := true) (disch := (k_dflt (
    refine inBox ?_
    intro dp un gd cn cs a ccd cl outer A₀ base h₀ L' m s Q E own B F X N hoff T hk hd hu hret
    simp only [List.cons_append, List.nil_append] at N
    have cE := InElt.start s.heap
    walk_at "MyEnter"
    repeat ((fail_if_success (with_reducible show wpAny _ _ (exec (Stmt.If (Expr.BoolOp _ _ _) _ _ _) _) _ _ _)); (first | k_extra "MyQ" | (k_unfold; (try dsimp only)) | walk1 | (dsimp only; walk1)))
    rename Fr _ _ _ _ => F9
    rename News _ _ _ _ => N9
    refine joinStay F9 N9 ?chk ?go
    case chk =>
      k_steps
      all_goals (rename News _ _ _ _ => NZ)
      all_goals exact StayP.mk' rfl (by assumption) (cb_drop NZ (fun p hp => by repeat (first | exact hp | refine List.Mem.tail _ ?_)))
    clear F9 N9
    rintro h9 tk9 F9 N9
    k_steps
    all_goals rename News _ _ _ _ => NX
    all_goals rename Fr _ _ _ _ => FX
    all_goals refine' hret .none _ _ [_, _, _, _] FX (by intro p hp; refine NX p ?_; first | exact hp | exact .tail _ hp | exact .tail _ (.tail _ hp) | exact .tail _ (.tail _ (.tail _ hp)) | exact .tail _ (.tail _ (.tail _ (.tail _ hp)))) ⟨rfl, ⟨_, _, _, _, _, _, _, _, _, _, _, _, _, _, _, _, _, _, _, _, _, _, _, _, _, _, _, _⟩, ?_⟩
    all_goals (try (dsimp only [orEs]; exact rfl))
    ))) only [↓Box.of]
theorem take_9b (o od x d : Addr) (T : OrT) (st : OrS) (T0 : SgT) (n i : Int) (ho : @Ne Nat od o) (hx : @Ne Nat od x) (hd' : @Ne Nat od d) (h0 : st.trail = 0) (h1 : (st.point != Str.ofString "") = false) :
    DoesL w mean mg mb 488 6 [.ref o, .ref x] [(o, instObj 505 od), (od, dictOf (orEs w T st) 16), (x, instObj 348 d), (d, dictOf (sgEs w T0 (Str.ofString "9") n i) 3)] [od]
      (fun N1 v => v = .none ∧ ∃ T', N1 = [(o, instObj 505 od), (od, dictOf (orEs w T' { st with seen := st.seen + 1, nines := st.nines + n, last := Str.ofString "9" }) 16), (x, instObj 348 d), (d, dictOf (sgEs w T0 (Str.ofString "9") n i) 3)]) := by
  refine unBox ?_
  simp (zetaDelta := true) (disch := (k_dflt (
    refine inBox ?_
    intro dp un gd cn cs a ccd cl outer A₀ base h₀ L' m s Q E own B F X N hoff T hk hd hu hret
    simp only [List.cons_append, List.nil_append] at N
    have cE := InElt.start s.heap
    walk_at "MyEnter"
    repeat ((fail_if_success (with_reducible show wpAny _ _ (exec (Stmt.If (Expr.BoolOp _ _ _) _ _ _) _) _ _ _)); (first | k_extra "MyQ" | (k_unfold; (try dsimp only)) | walk1 | (dsimp only; walk1)))
    rename Fr _ _ _ _ => F9
    rename News _ _ _ _ => N9
    refine joinStay F9 N9 ?chk ?go
    case chk =>
      k_steps
      all_goals (rename News _ _ _ _ => NZ)
      all_goals exact StayP.mk' rfl (by assumption) (cb_drop NZ (fun p hp => by repeat (first | exact hp | refine List.Mem.tail _ ?_)))
    clear F9 N9
    rintro h9 tk9 F9 N9
    k_steps
    all_goals rename News _ _ _ _ => NX
    all_goals rename Fr _ _ _ _ => FX
    all_goals refine' hret .none _ _ [_, _, _, _] FX (by intro p hp; refine NX p ?_; first | exact hp | exact .tail _ hp | exact .tail _ (.tail _ hp) | exact .tail _ (.tail _ (.tail _ hp)) | exact .tail _ (.tail _ (.tail _ (.tail _ hp)))) ⟨rfl, ⟨_, _, _, _, _, _, _, _, _, _, _, _, _, _, _, _, _, _, _, _, _, _, _, _, _, _, _, _⟩, ?_⟩
    all_goals (try (dsimp only [orEs]; exact rfl))
    ))) only [↓Box.of]
end
end
section
theorem kw_66_tk : True := by
  k_with_none
  k_with "MyEnter" => (refine wpAny_call ?_; k_dflt (refine' code_defG ?k1 ?k2 ?k3 ?k4 ?k5 ?kA ?kF ?kK ?k6 ?k7 ?k8 ?k9 ?kB ?_ ?c2 ?c3 ?c4 ?c5; (case kA => exact rfl); (case kF => exact rfl); (case kK => assumption); (case k1 => k_asm); (case k2 => k_asm); (case k3 => k_asm); (case k4 => k_asm); (case k5 => k_asm); (case k6 => k_is); (case k7 => k_is); (case k8 => ktr_room); (case k9 => first | exact BindsTo.of_eq rfl | exact binds_K (by k_in) rfl (by k_is) rfl rfl rfl); (case c5 => decide); (case kB => exact locs rfl); (case c2 => exact rfl); (case c3 => exact rfl); (case c4 => exact rfl); k_whole; intro g' L' h' FG' F' N' B' X' T' kG'; (try dsimp only); (try k_lift B'); (try k_fold)))
  k_with "binaryOp FloorDiv int int" => (k_here; (with_reducible refine floordiv_int ?d0 ?_ (Or.inl ?d1)); (case d0 => first | with_reducible assumption | decide | omega); (case d1 => first | with_reducible assumption | exact PyProof.noPylong_of_log2 (by decide +kernel)))
  k_with "MyKEnter" => ((fail_if_success k_inElt); (refine' code_defC ?k1 ?k2 ?k3 ?k4 ?k5 ?kA ?kF ?kK ?k6 ?k7 ?k8 ?k9 ?kB ?kD ?_ ?c2 ?c3 ?c4; (case kA => exact rfl); (case kF => exact rfl); (case kK => exact rfl); (case k1 => k_asm); (case k2 => k_asm); (case k3 => k_asm); (case k4 => k_asm); (case k5 => k_asm); (case k6 => k_is); (case k7 => k_is); (case k8 => ktr_room); (case k9 => first | exact BindsTo.of_eq rfl | exact binds_K (by k_in) rfl (by k_is) rfl rfl rfl | fail "k_enter: no rule for these arguments"); (case kB => exact rfl); (case kD => decide +kernel); (case c2 => exact rfl); (case c3 => exact rfl); (case c4 => exact rfl); k_whole; intro g' L' h' tk' cells' FG' F' N' Y' B' X' T' l1; (try k_lt l1); k_cells Y'; (try simp only [List.cons_append, List.nil_append] at N'); (try dsimp only); (try k_lift B'); (try k_fold)))
  k_with "MyKEnter" => ((fail_if_success k_inElt); (refine' code_def ?k1 ?k2 ?k3 ?k4 ?k5 ?kA ?kF ?kK ?k6 ?k7 ?k8 ?k9 ?kB ?_ ?c2 ?c3 ?c4 ?c5; (case kA => exact rfl); (case kF => exact rfl); (case kK => exact rfl); (case k1 => k_asm); (case k2 => k_asm); (case k3 => k_asm); (case k4 => k_asm); (case k5 => k_asm); (case k6 => k_is); (case k7 => k_is); (case k8 => ktr_room); (case k9 => first | exact BindsTo.of_eq rfl | exact binds_K (by k_in) rfl (by k_is) rfl rfl rfl | fail "k_enter: no rule for these arguments"); (case c5 => decide); (case kB => exact locs rfl); (case c2 => exact rfl); (case c3 => exact rfl); (case c4 => exact rfl); k_whole; intro g' L' h' FG' F' N' B' X' T'; (try dsimp only); (try k_lift B'); (try k_fold)))
  k_with "MyPre" => first | with_reducible assumption | omega | with_reducible decide | fail "MyPre"
  k_with "execs cons" => ((fail_if_success k_inElt); first | (with_reducible refine consQ (by with_reducible assumption) (fun Q9 hQ9 => ?_)) | (with_reducible refine consQQ (fun Q8 hQ8 Q9 hQ9 => ?_)))
  k_with "execs cons" => (k_made; walk_at "execs cons")
  k_with "execs cons" => ((with_reducible show wpAny _ _ _ _ _ (Shared.mk _ _ _ (@HAdd.hAdd Nat Nat Nat _ _ _) _)); refine stGen s rfl rfl rfl (fun tk9 => ?_); (try dsimp only))
  k_with "MyQ" => ((fail_if_success (with_reducible show wpAny _ _ _ _ _ _)); (with_reducible first | refine qNext (by with_reducible assumption) ?_ | refine qRet (by with_reducible assumption) ?_ | refine qBrk (by with_reducible assumption) ?_ | refine qCont (by with_reducible assumption) ?_ | refine qGen (by with_reducible assumption) ?_); (try dsimp only))
  k_with "MyAll" => first | k_extra "MyQ" | (k_unfold; (try dsimp only)) | (k_end; kc_close) | walk1 | (dsimp only; walk1) | (leave1; walk_say "STEP leave1"; (try dsimp only)) | fail "no step"
  k_with "eval Name" => (k_here; (with_reducible show wpAny _ _ (eval (Expr.Name _ _) (envOf _ _ _ _ _)) _ _ _); k_dflt (refine' ld ?k1 ?k2 ?_ rfl (by kernel_rfl!) (by kernel_rfl!); (case k1 => k_asm); (case k2 => exact rfl); k_whole))
  k_with "MySize" => ((with_reducible show List.length (List.nil) ≤ _); exact Nat.zero_le _)
  k_with "MyKSub" => (intro p77 hp77; (repeat (first | with_reducible exact hp77 | with_reducible refine List.mem_cons_of_mem _ ?_)); done)
  trivial
section
variable {w : World} {mean : ExcName → Option Value} {mg mb : Str → Option Value}
theorem take_does (o od x d : Addr) (T : OrT) (st st' : OrS) (T0 : SgT) (c : Str) (n i : Int) (ho : @Ne Nat od o) (hx : @Ne Nat od x) (hd' : @Ne Nat od d) (h : takeStep st c n = some st') :
    DoesL w mean mg mb 488 6 [.ref o, .ref x] [(o, instObj 505 od), (od, dictOf (orEs w T st) 16), (x, instObj 348 d), (d, dictOf (sgEs w T0 c n i) 3)] [od]
      (fun N1 v => v = .none ∧ ∃ T', N1 = [(o, instObj 505 od), (od, dictOf (orEs w T' st') 16), (x, instObj 348 d), (d, dictOf (sgEs w T0 c n i) 3)]) := by
  unfold takeStep at h
  split at h
  · rename_i hc; subst hc
    split at h
    · rename_i q; cases h; exact take_S o od x d T st T0 n i ho hx hd' q.1 q.2
    · cases h
  · split at h
    · rename_i hc; subst hc
      split at h
      · rename_i q; cases h
        by_cases hp : (st.point != Str.ofString "") = true
        · have z := take_9a (w := w) (mean := mean) (mg := mg) (mb := mb) o od x d T st T0 n i ho hx hd' q hp
          rw [if_pos hp]; exact z
        · have z := take_9b (w := w) (mean := mean) (mg := mg) (mb := mb) o od x d T st T0 n i ho hx hd' q (by simpa using hp)
          rw [if_neg hp]; exact z
      · cases h
    · split at h
      · rename_i hc; subst hc
        split at h
        · rename_i q0; split at h
          · rename_i q; cases h; exact take_Pt o od x d T st T0 n i ho hx hd' q0 q.1 q.2
          · cases h
        · split at h
          · rename_i q; cases h; exact take_Pl o od x d T st T0 n i ho hx hd' q.1 q.2
          · cases h
      · split at h
        · rename_i hc; subst hc
          split at h
          · rename_i q; cases h; exact take_V o od x d T st T0 n i ho hx hd' q.1 q.2
          · cases h
        · cases h
theorem digits_does (o od : Addr) (T : OrT) (st : OrS) : Does w mean mg mb 404 2 [.ref o] [(o, instObj 505 od), (od, dictOf (orEs w T st) 16)] (fun nw v => nw = [] ∧ ∃ t, v = .int st.nines t) := by
  refine unBox ?_
  simp (zetaDelta := true) (disch := (k_dflt (
    refine inBox ?_
    obtain ⟨seen, plain, point, lead, trail, nines, behind, last⟩ := st
    intro dp un gd cn cs a ccd cl outer A₀ base h₀ L m s Q E B F X N T hk hd hu hret
    have cE := InElt.start s.heap
    simp only [orEs] at N
    walk_at "MyEnter"
    k_steps
    exact hret _ _ _ _ (by assumption) (newsTake 0 (by assumption)) ⟨rfl, _, congrArg (Value.int · _) (by dsimp only; omega)⟩
    ))) only [↓Box.of]
theorem scale_does (o od : Addr) (T : OrT) (st : OrS) : Does w mean mg mb 502 6 [.ref o] [(o, instObj 505 od), (od, dictOf (orEs w T st) 16)] (fun nw v => nw = [] ∧ ∃ t, v = .int (if 0 < st.lead then st.lead + st.nines else st.behind - st.trail) t) := by
  refine unBox ?_
  simp (zetaDelta := true) (disch := (k_dflt (
    refine inBox ?_
    obtain ⟨seen, plain, point, lead, trail, nines, behind, last⟩ := st
    intro dp un gd cn cs a ccd cl outer A₀ base h₀ L m s Q E B F X N T hk hd hu hret
    have cE := InElt.start s.heap
    simp only [orEs] at N
    walk_at "MyEnter"
    k_steps
    · exact hret _ _ _ _ (by assumption) (newsTake 0 (by assumption)) ⟨rfl, _, congrArg (Value.int · _) (by rw [if_pos (by assumption)]; dsimp only; omega)⟩
    · exact hret _ _ _ _ (by assumption) (newsTake 0 (by assumption)) ⟨rfl, _, congrArg (Value.int · _) (by rw [if_neg (by assumption)])⟩
    ))) only [↓Box.of]
theorem whole_does (o od : Addr) (T : OrT) (st : OrS) (h1 : 0 < st.nines) (h2 : st.nines + st.lead + st.trail ≤ 18) (h3 : ([Str.ofString ",", Str.ofString "."].any fun x => x == st.last) = false) : Does w mean mg mb 495 6 [.ref o] [(o, instObj 505 od), (od, dictOf (orEs w T st) 16)] (fun nw v => nw = [] ∧ v = .bool true) := by
  refine unBox ?_
  simp (zetaDelta := true) (disch := (k_dflt (
    refine inBox ?_
    obtain ⟨seen, plain, point, lead, trail, nines, behind, last⟩ := st
    dsimp only at h1 h2 h3
    intro dp un gd cn cs a ccd cl outer A₀ base h₀ L m s Q E B F X N T hk hd hu hret
    have cE := InElt.start s.heap
    simp only [orEs] at N
    walk_at "MyEnter"
    k_steps
    · exfalso; omega
    · exact hret _ _ _ _ (by assumption) (newsTake 0 (by assumption)) ⟨rfl, congrArg Value.bool (decide_eq_true (by omega))⟩
    ))) only [↓Box.of]
end
end
section
theorem kw_67_cp : True := by
  k_with_none
  k_with "MyEnter" => (refine wpAny_call ?_; k_dflt (refine' code_defG ?k1 ?k2 ?k3 ?k4 ?k5 ?kA ?kF ?kK ?k6 ?k7 ?k8 ?k9 ?kB ?_ ?c2 ?c3 ?c4 ?c5; (case kA => exact rfl); (case kF => exact rfl); (case kK => assumption); (case k1 => k_asm); (case k2 => k_asm); (case k3 => k_asm); (case k4 => k_asm); (case k5 => k_asm); (case k6 => k_is); (case k7 => k_is); (case k8 => ktr_room); (case k9 => first | exact BindsTo.of_eq rfl | exact binds_K (by k_in) rfl (by k_is) rfl rfl rfl); (case c5 => decide); (case kB => exact locs rfl); (case c2 => exact rfl); (case c3 => exact rfl); (case c4 => exact rfl); k_whole; intro g' L' h' FG' F' N' B' X' T' kG'; (try dsimp only); (try k_lift B'); (try k_fold)))
  k_with "binaryOp FloorDiv int int" => (k_here; (with_reducible refine floordiv_int ?d0 ?_ (Or.inl ?d1)); (case d0 => first | with_reducible assumption | decide | omega); (case d1 => first | with_reducible assumption | exact PyProof.noPylong_of_log2 (by decide +kernel)))
  k_with "MyKEnter" => ((fail_if_success k_inElt); (refine' code_defC ?k1 ?k2 ?k3 ?k4 ?k5 ?kA ?kF ?kK ?k6 ?k7 ?k8 ?k9 ?kB ?kD ?_ ?c2 ?c3 ?c4; (case kA => exact rfl); (case kF => exact rfl); (case kK => exact rfl); (case k1 => k_asm); (case k2 => k_asm); (case k3 => k_asm); (case k4 => k_asm); (case k5 => k_asm); (case k6 => k_is); (case k7 => k_is); (case k8 => ktr_room); (case k9 => first | exact BindsTo.of_eq rfl | exact binds_K (by k_in) rfl (by k_is) rfl rfl rfl | fail "k_enter: no rule for these arguments"); (case kB => exact rfl); (case kD => decide +kernel); (case c2 => exact rfl); (case c3 => exact rfl); (case c4 => exact rfl); k_whole; intro g' L' h' tk' cells' FG' F' N' Y' B' X' T' l1; (try k_lt l1); k_cells Y'; (try simp only [List.cons_append, List.nil_append] at N'); (try dsimp only); (try k_lift B'); (try k_fold)))
  k_with "MyKEnter" => ((fail_if_success k_inElt); (refine' code_def ?k1 ?k2 ?k3 ?k4 ?k5 ?kA ?kF ?kK ?k6 ?k7 ?k8 ?k9 ?kB ?_ ?c2 ?c3 ?c4 ?c5; (case kA => exact rfl); (case kF => exact rfl); (case kK => exact rfl); (case k1 => k_asm); (case k2 => k_asm); (case k3 => k_asm); (case k4 => k_asm); (case k5 => k_asm); (case k6 => k_is); (case k7 => k_is); (case k8 => ktr_room); (case k9 => first | exact BindsTo.of_eq rfl | exact binds_K (by k_in) rfl (by k_is) rfl rfl rfl | fail "k_enter: no rule for these arguments"); (case c5 => decide); (case kB => exact locs rfl); (case c2 => exact rfl); (case c3 => exact rfl); (case c4 => exact rfl); k_whole; intro g' L' h' FG' F' N' B' X' T'; (try dsimp only); (try k_lift B'); (try k_fold)))
  k_with "MyPre" => first | with_reducible assumption | omega | with_reducible decide | fail "MyPre"
  k_with "execs cons" => ((fail_if_success k_inElt); first | (with_reducible refine consQ (by with_reducible assumption) (fun Q9 hQ9 => ?_)) | (with_reducible refine consQQ (fun Q8 hQ8 Q9 hQ9 => ?_)))
  k_with "execs cons" => (k_made; walk_at "execs cons")
  k_with "execs cons" => ((with_reducible show wpAny _ _ _ _ _ (Shared.mk _ _ _ (@HAdd.hAdd Nat Nat Nat _ _ _) _)); refine stGen s rfl rfl rfl (fun tk9 => ?_); (try dsimp only))
  k_with "MyQ" => ((fail_if_success (with_reducible show wpAny _ _ _ _ _ _)); (with_reducible first | refine qNext (by with_reducible assumption) ?_ | refine qRet (by with_reducible assumption) ?_ | refine qBrk (by with_reducible assumption) ?_ | refine qCont (by with_reducible assumption) ?_ | refine qGen (by with_reducible assumption) ?_); (try dsimp only))
  k_with "MyAll" => first | k_extra "MyQ" | (k_unfold; (try dsimp only)) | (k_end; kc_close) | walk1 | (dsimp only; walk1) | (leave1; walk_say "STEP leave1"; (try dsimp only)) | fail "no step"
  k_with "eval Name" => (k_here; (with_reducible show wpAny _ _ (eval (Expr.Name _ _) (envOf _ _ _ _ _)) _ _ _); k_dflt (refine' ld ?k1 ?k2 ?_ rfl (by kernel_rfl!) (by kernel_rfl!); (case k1 => k_asm); (case k2 => exact rfl); k_whole))
  k_with "MySize" => ((with_reducible show List.length (List.nil) ≤ _); exact Nat.zero_le _)
  k_with "MyKSub" => (intro p77 hp77; (repeat (first | with_reducible exact hp77 | with_reducible refine List.mem_cons_of_mem _ ?_)); done)
  trivial
theorem old_ne {h : Heap} {b : Addr} {o : Obj} {j : Nat} (e : h.get? b = some o) : b ≠ h.objs.size + j := Nat.ne_of_lt (Nat.lt_of_lt_of_le (Heap.lt_size e) (Nat.le_add_right _ _))
theorem old_ne0 {h : Heap} {b : Addr} {o : Obj} (e : h.get? b = some o) : b ≠ h.objs.size := Nat.ne_of_lt (Heap.lt_size e)
theorem ne01 (n : Nat) : n ≠ n + 1 := by omega
theorem ne02 (n : Nat) : n ≠ n + 2 := by omega
theorem ne12 (n : Nat) : n + 1 ≠ n + 2 := by omega
theorem carApp : ∀ {xs ys : List Value} {ds es : List PyData}, CarriedAll xs ds → CarriedAll ys es → CarriedAll (xs ++ ys) (ds ++ es)
  | _, _, _, _, .nil, h => h
  | _, _, _, _, .cons a r, h => .cons a (carApp r h)
section
open PySem.Calls PyProof PySem.Spec PyProof.Rows.LCg
variable {prog : Program} {w : World} {A : Around} {E : Value → Shared → Prop} {s : Shared} {env : Env} {h₀ : Heap} {L : Addr} {m : Str → Option Value}
/-- an end within a comprehension: what stood still stands -/
noncomputable def SyEnd (h₀ : Heap) (L : Addr) (m : Str → Option Value) (s : Shared) (all : List (Addr × Obj)) (s' : Shared) : Prop := ∃ h' tk, s' = { s with heap := h', toks := tk } ∧ Fr h₀ L h' m ∧ News h₀ L h' all
theorem SyEnd.intro {s : Shared} {all al2 : List (Addr × Obj)} {h' : Heap} {tk : Nat} (F : Fr h₀ L h' m) (N : News h₀ L h' al2) (hs : ∀ p ∈ all, p ∈ al2) : SyEnd h₀ L m s all { s with heap := h', toks := tk } := ⟨h', tk, rfl, F, fun p hp => N p (hs p hp)⟩
/-- the source of a comprehension over symbols: its tests, its items, its end -/
noncomputable def SySrc (prog : Program) (w : World) (A : Around) (h₀ : Heap) (L : Addr) (m : Str → Option Value) (env : Env) (elt ct : PySem.Expr) (x x₂ : Str) (scope : Scope) (cl : List (Str × Addr)) (pz : Sy → Bool) (d : Sy → PyData) (Q : Value → Shared → Prop) (xv : Value) (s₁ : Shared) : Prop :=
  ∃ fl S k news, xv = .ref fl ∧ Fr h₀ L s₁.heap m ∧ News h₀ L s₁.heap news ∧ (fl, listOf (List.map Sy.ref S).toArray k) ∈ news ∧ S.length ≤ sizeLine ∧ (∀ p ∈ syAll S, p ∈ news) ∧
    (∀ I oI C oC D ys t h tk m₂ E', t ∈ S → NsObj oC m₂ → m₂ x = some (.str t.c t.t1) → m₂ x₂ = some (.int t.n t.t2) → Fr h₀ L h m → News h₀ L h ((I, oI) :: (C, oC) :: (D, lst ys) :: news) →
      wpAny (model prog w) A (isTrue ct (compEnvC scope cl C env) (eval ct (compEnvC scope cl C env))) (fun ok s₃ => ok = pz t ∧ SyEnd h₀ L m s₁ ((I, oI) :: (C, oC) :: (D, lst ys) :: news) s₃) E' { s₁ with heap := h, toks := tk }) ∧
    (∀ I oI C oC D ys t h tk m₂ E', t ∈ S → NsObj oC m₂ → m₂ x = some (.str t.c t.t1) → m₂ x₂ = some (.int t.n t.t2) → Fr h₀ L h m → News h₀ L h ((I, oI) :: (C, oC) :: (D, lst ys) :: news) → pz t = true →
      wpAny (model prog w) A (eval elt (compEnvC scope cl C env)) (fun y s₃ => Carried y (d t) ∧ SyEnd h₀ L m s₁ ((I, oI) :: (C, oC) :: (D, lst ys) :: news) s₃) E' { s₁ with heap := h, toks := tk }) ∧
    (∀ D ys h' tk, Fr h₀ L h' m → News h₀ L h' ((D, lst ys) :: news) → CarriedAll ys ((S.filter pz).map d) → Q (.ref D) { s₁ with heap := h', toks := tk })
theorem comp_pairs {elt iter ct : PySem.Expr} {x x₂ : Str} {px px₂ tp : Pos} {kk : Nat} {scope : Scope} {cl : List (Str × Addr)} {pos : Pos} {Q : Value → Shared → Prop} (_F₀ : Fr h₀ L s.heap m) (pz : Sy → Bool) (d : Sy → PyData)
    (hh : A.handled = none) (hclos : closureFor scope env = pure cl) (hcell : ∀ y ∈ scope.names, y.2 ≠ .cell) (hkind : scope.kind = .function)
    (hnames : ∀ y ∈ scope.names, y.2 = .local → scope.names.lookup y.1 = some .local) (hx : scope.names.lookup x = some .local) (hx₂ : scope.names.lookup x₂ = some .local) (hxx : ¬ x = x₂)
    (h : wpAny (model prog w) A (eval iter env) (SySrc prog w A h₀ L m env elt ct x x₂ scope cl pz d Q) E s) (hs : ∀ x, foldedSetIterable iter env x = pure x := by intro _; rfl) :
    wpAny (model prog w) A (eval (.ListComp elt [⟨.Tuple [.Name x px, .Name x₂ px₂] kk tp, iter, [ct], 0⟩] scope pos) env) Q E s := by
  rw [eval_ListComp]
  refine wpAny_comprehension_free (use := none) rfl hs hclos hkind hnames (wpAny_mono h (fun xv s₁ h₁ => ?_) fun _ _ e => e)
  obtain ⟨fl, S, k, news, rfl, F, N, hfm, hsz, hT, gt, ge, gf⟩ := h₁
  have hfl := (N _ hfm).1
  have hl : s₁.heap.IsList fl (List.map Sy.ref S).toArray := ⟨_, hfl, rfl, k, rfl⟩
  refine wpAny_pyIter_list hl ?_
  refine wpAny_newObj_type (wpAny_newFunctionEnv hcell (by intro y hy; simp at hy) (fun h₁ hns₁ hsb₁ => ?_) hkind)
  dsimp only at hns₁ hsb₁ ⊢
  generalize hH2 : (s₁.heap.push { cls := .type "list_iterator", data := .fields #[.ref fl, .int 0 0] }).push { cls := .type "list", data := .seq ([] : List Value).toArray } = H2 at hns₁ hsb₁ ⊢
  have hC : H2.objs.size = s₁.heap.objs.size + 2 := by rw [← hH2, Heap.size_push, Heap.size_push]
  rw [show (s₁.heap.push { cls := .type "list_iterator", data := .fields #[.ref fl, .int 0 0] }).objs.size = s₁.heap.objs.size + 1 from Heap.size_push ..]
  rw [hC] at hns₁ hsb₁ ⊢
  have hm2 : ∀ b o, s₁.heap.get? b = some o → H2.get? b = some o := fun b o e => hH2 ▸ Heap.get?_push_of_some _ (Heap.get?_push_of_some _ e)
  have up₁ : ∀ b o, s₁.heap.get? b = some o → h₁.get? b = some o := fun b o e => hsb₁.extBut b o (old_ne e) (Heap.get?_push_of_some _ (hm2 b o e))
  have hI₁ : h₁.IsListIter s₁.heap.objs.size fl 0 := ⟨_, hsb₁.extBut s₁.heap.objs.size _ (ne02 _) (Heap.get?_push_of_some _ (hH2 ▸ Heap.get?_push_of_some _ (Heap.get?_push_size _ rfl))), rfl, rfl⟩
  have hDp : H2.get? (s₁.heap.objs.size + 1) = some (lst []) := by
    have q := Heap.get?_push_size (o := { cls := .type "list", data := .seq ([] : List Value).toArray }) (s₁.heap.push { cls := .type "list_iterator", data := .fields #[.ref fl, .int 0 0] }) rfl
    rw [hH2, Heap.size_push] at q
    exact q
  have hD₁ : h₁.get? (s₁.heap.objs.size + 1) = some (lst []) := hsb₁.extBut _ _ (ne12 _) (Heap.get?_push_of_some _ hDp)
  have W := Walks.list (prog := prog) (w := w) hh s₁.heap.objs.size fl (old_ne0 hfl) (List.map Sy.ref S).toArray
  have hsize : (List.map Sy.ref S).toArray.size = S.length := by simp
  rw [hsize] at W
  have fresh : ∀ j, h₀.get? (s₁.heap.objs.size + j) = none := fun j => by
    cases e : h₀.get? (s₁.heap.objs.size + j) with
    | none => rfl
    | some o => exact absurd rfl (old_ne (F.keep _ _ e))
  have lne : ∀ j, L ≠ s₁.heap.objs.size + j := fun j => Nat.ne_of_lt (Nat.lt_of_lt_of_le F.ns.lt (Nat.le_add_right _ _))
  have nne : ∀ j, ∀ p ∈ news, p.1 ≠ s₁.heap.objs.size + j := fun j p hp => old_ne (N p hp).1
  refine (fun loop => codeAny_compStart_list loop (W.self 0 _ _ _ ⟨hI₁, hl.at fun o e => up₁ _ _ e⟩ loop)) ?_
  refine kct_loop
    (fun n s' => ∃ h' tk i ys mC, s' = { s₁ with heap := h', toks := tk } ∧ i ≤ S.length ∧ n = S.length + 1 - i ∧ Fr h₀ L h' m ∧ News h₀ L h' ((s₁.heap.objs.size + 1, lst ys) :: news) ∧ h'.IsListIter s₁.heap.objs.size fl i ∧
      h'.Ns (s₁.heap.objs.size + 2) mC ∧ ys.length ≤ i ∧ CarriedAll ys (((S.take i).filter pz).map d)) ?_ (S.length + 1)
    ⟨h₁, _, 0, [], _, rfl, Nat.zero_le _, rfl, F.keeps up₁, (fun p hp => ?_), hI₁, hns₁, Nat.le_refl _, .nil⟩
  · rintro n s' ⟨h', tk, i, ys, mC, rfl, hi, rfl, F', N', hit, hC', hyl, hcar⟩
    have hflN : h'.IsList fl (List.map Sy.ref S).toArray := ⟨_, (N' _ (.tail _ hfm)).1, rfl, k, rfl⟩
    have offI : ∀ p ∈ (s₁.heap.objs.size + 1, lst ys) :: news, p.1 ≠ s₁.heap.objs.size := fun p hp => by
      rcases List.mem_cons.mp hp with rfl | hp
      · exact (ne01 _).symm
      · exact nne 0 p hp
    have offC : ∀ p ∈ (s₁.heap.objs.size + 1, lst ys) :: news, p.1 ≠ s₁.heap.objs.size + 2 := fun p hp => by
      rcases List.mem_cons.mp hp with rfl | hp
      · exact ne12 _
      · exact nne 2 p hp
    by_cases hlt : i < S.length
    · refine W.item i _ _ _ hlt ⟨hit, hflN⟩ fun v h₂ tk₂ hPv hst₂ hk₂ => ?_
      have hv : v = Sy.ref S[i] := by
        have q : (List.map Sy.ref S)[i]? = some v := by simpa using hPv
        rw [List.getElem?_map, List.getElem?_eq_getElem hlt] at q
        exact (Option.some.inj q).symm
      subst hv
      have hmem : S[i] ∈ S := List.getElem_mem hlt
      have F₂ := fr_but F' hk₂ (lne 0) (fresh 0)
      have N₂ := news_but N' hk₂ offI
      have ht : h₂.IsTuple S[i].r #[.str S[i].c S[i].t1, .int S[i].n S[i].t2] := ⟨_, (N₂ _ (.tail _ (hT _ (List.mem_map.mpr ⟨_, hmem, rfl⟩)))).1, rfl, _, rfl⟩
      refine wpAny_letOwnedTupleGo_listiter hst₂.1 ?_
      have hC₂ := hC'.at' fun o e => hk₂ _ o (fun q => (ne02 _).symm (List.mem_singleton.mp q)) e
      refine kcp_assign (env := compEnvC scope cl (s₁.heap.objs.size + 2) env) hh ht (lookup_relabel_local hx) (lookup_relabel_local hx₂) (by simp [compEnvC, relabel, hkind]) hC₂ fun h₃ tk₃ hn₃ hs₃ => ?_
      have k₃ : ∀ b o, b ∉ [s₁.heap.objs.size + 2] → h₂.get? b = some o → h₃.get? b = some o := fun b o hb e => hs₃ b o (fun q => hb (List.mem_singleton.mpr q)) e
      have F₃ := fr_but F₂ k₃ (lne 2) (fresh 2)
      have N₃ := news_but N₂ k₃ offC
      obtain ⟨oI, heI, hcI, hdI⟩ := hst₂.1
      have heI₃ := k₃ _ _ (fun q => ne02 _ (List.mem_singleton.mp q)) heI
      obtain ⟨oC, heC, hoC⟩ := ns_obj hn₃
      have NA : News h₀ L h₃ ((s₁.heap.objs.size, oI) :: (s₁.heap.objs.size + 2, oC) :: (s₁.heap.objs.size + 1, lst ys) :: news) := fun p hp => by
        rcases List.mem_cons.mp hp with rfl | hp
        · exact ⟨heI₃, (lne 0).symm, fresh 0⟩
        · rcases List.mem_cons.mp hp with rfl | hp
          · exact ⟨heC, (lne 2).symm, fresh 2⟩
          · exact N₃ p hp
      have htake : S.take (i + 1) = S.take i ++ [S[i]] := by rw [List.take_add_one, List.getElem?_eq_getElem hlt]; rfl
      refine wpAny_mono (gt _ oI _ oC _ ys S[i] h₃ tk₃ _ _ hmem hoC (by simp [hxx]) (by simp) F₃ NA) (fun ok s₄ h₄ => ?_) fun _ _ e => e
      obtain ⟨hok, h₅, tk₅, rfl, F₅, N₅⟩ := h₄
      cases hpz : pz S[i] with
      | true =>
        rw [hok, hpz, if_pos rfl]
        refine wpAny_mono (ge _ oI _ oC _ ys S[i] h₅ tk₅ _ _ hmem hoC (by simp [hxx]) (by simp) F₅ N₅ hpz) (fun y s₆ h₆ => ?_) fun _ _ e => e
        obtain ⟨hcy, h₇, tk₇, rfl, F₇, N₇⟩ := h₆
        refine append_at (hsz := by show ys.toArray.size ≤ sizeLine; rw [List.size_toArray]; exact Nat.le_trans (Nat.le_trans hyl hi) hsz) (N₇ _ (.tail _ (.tail _ (.head _)))).1 fun h₈ hs₈ hD₈ => ?_
        have k₈ : ∀ b o, b ∉ [s₁.heap.objs.size + 1] → h₇.get? b = some o → h₈.get? b = some o := fun b o hb e => hs₈.extBut b o (fun q => hb (List.mem_singleton.mpr q)) e
        refine ⟨S.length + 1 - (i + 1), by omega, h₈, tk₇, i + 1, ys ++ [y], _, rfl, hlt, rfl, fr_but F₇ k₈ (lne 1) (fresh 1), (fun p hp => ?_), ⟨oI, k₈ _ _ (fun q => ne01 _ (List.mem_singleton.mp q)) (N₇ _ (.head _)).1, hcI, hdI⟩,
          hoC.ns (k₈ _ _ (fun q => (ne12 _).symm (List.mem_singleton.mp q)) (N₇ _ (.tail _ (.head _))).1), by rw [List.length_append, List.length_singleton]; exact Nat.succ_le_succ hyl, ?_⟩
        · rcases List.mem_cons.mp hp with rfl | hp
          · exact ⟨hD₈.trans (congrArg some (lst_snoc ys y)), (lne 1).symm, fresh 1⟩
          · have z := N₇ p (.tail _ (.tail _ (.tail _ hp)))
            exact ⟨k₈ _ _ (fun q => nne 1 p hp (List.mem_singleton.mp q)) z.1, z.2⟩
        · rw [htake, List.filter_append, List.map_append]
          exact carApp hcar (by rw [List.filter_cons_of_pos hpz]; exact .cons hcy .nil)
      | false =>
        rw [hok, hpz, if_neg Bool.false_ne_true]
        refine ⟨S.length + 1 - (i + 1), by omega, h₅, tk₅, i + 1, ys, _, rfl, hlt, rfl, F₅, (fun p hp => N₅ p (.tail _ (.tail _ hp))), ⟨oI, (N₅ _ (.head _)).1, hcI, hdI⟩, hoC.ns (N₅ _ (.tail _ (.head _))).1, Nat.le_succ_of_le hyl, ?_⟩
        rw [htake, List.filter_append, List.map_append, List.filter_cons_of_neg (by rw [hpz]; exact Bool.false_ne_true)]
        simpa using hcar
    · obtain rfl : i = S.length := Nat.le_antisymm hi (Nat.not_lt.mp hlt)
      refine W.done _ _ _ ⟨hit, hflN⟩ fun h₂ tk₂ hk₂ => ?_
      rw [List.take_length] at hcar
      refine ⟨mC, hC'.at' fun o e => hk₂ _ o (fun q => (ne02 _).symm (List.mem_singleton.mp q)) e, fun h'' hs'' => ?_⟩
      have k'' : ∀ b o, b ∉ [s₁.heap.objs.size + 2] → h₂.get? b = some o → h''.get? b = some o := fun b o hb e => hs''.extBut b o (fun q => hb (List.mem_singleton.mpr q)) e
      exact gf _ ys h'' tk₂ (fr_but (fr_but F' hk₂ (lne 0) (fresh 0)) k'' (lne 2) (fresh 2)) (news_but (news_but N' hk₂ offI) k'' offC) hcar
  · rcases List.mem_cons.mp hp with rfl | hp
    · exact ⟨hD₁, (lne 1).symm, fresh 1⟩
    · exact N.grown up₁ p hp
end
end
section
theorem kw_68_siz : True := by
  k_with_none
  k_with "MyEnter" => (refine wpAny_call ?_; k_dflt (refine' code_defG ?k1 ?k2 ?k3 ?k4 ?k5 ?kA ?kF ?kK ?k6 ?k7 ?k8 ?k9 ?kB ?_ ?c2 ?c3 ?c4 ?c5; (case kA => exact rfl); (case kF => exact rfl); (case kK => assumption); (case k1 => k_asm); (case k2 => k_asm); (case k3 => k_asm); (case k4 => k_asm); (case k5 => k_asm); (case k6 => k_is); (case k7 => k_is); (case k8 => ktr_room); (case k9 => first | exact BindsTo.of_eq rfl | exact binds_K (by k_in) rfl (by k_is) rfl rfl rfl); (case c5 => decide); (case kB => exact locs rfl); (case c2 => exact rfl); (case c3 => exact rfl); (case c4 => exact rfl); k_whole; intro g' L' h' FG' F' N' B' X' T' kG'; (try dsimp only); (try k_lift B'); (try k_fold)))
  k_with "binaryOp FloorDiv int int" => (k_here; (with_reducible refine floordiv_int ?d0 ?_ (Or.inl ?d1)); (case d0 => first | with_reducible assumption | decide | omega); (case d1 => first | with_reducible assumption | exact PyProof.noPylong_of_log2 (by decide +kernel)))
  k_with "MyKEnter" => ((fail_if_success k_inElt); (refine' code_defC ?k1 ?k2 ?k3 ?k4 ?k5 ?kA ?kF ?kK ?k6 ?k7 ?k8 ?k9 ?kB ?kD ?_ ?c2 ?c3 ?c4; (case kA => exact rfl); (case kF => exact rfl); (case kK => exact rfl); (case k1 => k_asm); (case k2 => k_asm); (case k3 => k_asm); (case k4 => k_asm); (case k5 => k_asm); (case k6 => k_is); (case k7 => k_is); (case k8 => ktr_room); (case k9 => first | exact BindsTo.of_eq rfl | exact binds_K (by k_in) rfl (by k_is) rfl rfl rfl | fail "k_enter: no rule for these arguments"); (case kB => exact rfl); (case kD => decide +kernel); (case c2 => exact rfl); (case c3 => exact rfl); (case c4 => exact rfl); k_whole; intro g' L' h' tk' cells' FG' F' N' Y' B' X' T' l1; (try k_lt l1); k_cells Y'; (try simp only [List.cons_append, List.nil_append] at N'); (try dsimp only); (try k_lift B'); (try k_fold)))
  k_with "MyKEnter" => ((fail_if_success k_inElt); (refine' code_def ?k1 ?k2 ?k3 ?k4 ?k5 ?kA ?kF ?kK ?k6 ?k7 ?k8 ?k9 ?kB ?_ ?c2 ?c3 ?c4 ?c5; (case kA => exact rfl); (case kF => exact rfl); (case kK => exact rfl); (case k1 => k_asm); (case k2 => k_asm); (case k3 => k_asm); (case k4 => k_asm); (case k5 => k_asm); (case k6 => k_is); (case k7 => k_is); (case k8 => ktr_room); (case k9 => first | exact BindsTo.of_eq rfl | exact binds_K (by k_in) rfl (by k_is) rfl rfl rfl | fail "k_enter: no rule for these arguments"); (case c5 => decide); (case kB => exact locs rfl); (case c2 => exact rfl); (case c3 => exact rfl); (case c4 => exact rfl); k_whole; intro g' L' h' FG' F' N' B' X' T'; (try dsimp only); (try k_lift B'); (try k_fold)))
  k_with "MyPre" => first | with_reducible assumption | omega | with_reducible decide | fail "MyPre"
  k_with "execs cons" => ((fail_if_success k_inElt); first | (with_reducible refine consQ (by with_reducible assumption) (fun Q9 hQ9 => ?_)) | (with_reducible refine consQQ (fun Q8 hQ8 Q9 hQ9 => ?_)))
  k_with "execs cons" => (k_made; walk_at "execs cons")
  k_with "execs cons" => ((with_reducible show wpAny _ _ _ _ _ (Shared.mk _ _ _ (@HAdd.hAdd Nat Nat Nat _ _ _) _)); refine stGen s rfl rfl rfl (fun tk9 => ?_); (try dsimp only))
  k_with "MyQ" => ((fail_if_success (with_reducible show wpAny _ _ _ _ _ _)); (with_reducible first | refine qNext (by with_reducible assumption) ?_ | refine qRet (by with_reducible assumption) ?_ | refine qBrk (by with_reducible assumption) ?_ | refine qCont (by with_reducible assumption) ?_ | refine qGen (by with_reducible assumption) ?_); (try dsimp only))
  k_with "MyAll" => first | k_extra "MyQ" | (k_unfold; (try dsimp only)) | (k_end; kc_close) | walk1 | (dsimp only; walk1) | (leave1; walk_say "STEP leave1"; (try dsimp only)) | fail "no step"
  k_with "eval Name" => (k_here; (with_reducible show wpAny _ _ (eval (Expr.Name _ _) (envOf _ _ _ _ _)) _ _ _); k_dflt (refine' ld ?k1 ?k2 ?_ rfl (by kernel_rfl!) (by kernel_rfl!); (case k1 => k_asm); (case k2 => exact rfl); k_whole))
  k_with "MySize" => ((with_reducible show List.length (List.nil) ≤ _); exact Nat.zero_le _)
  k_with "MyKSub" => (intro p77 hp77; (repeat (first | with_reducible exact hp77 | with_reducible refine List.mem_cons_of_mem _ ?_)); done)
  trivial
noncomputable def nowhere (c : Str) : Bool := [Str.ofString "P", Str.ofString "S", Str.ofString "V"].any fun x => x == c
noncomputable def sizeF (F : List (Str × Int)) : Int := ((F.filter fun q => !nowhere q.1).map fun q => q.2 * (q.1.length : Int)).sum
section
variable {w : World} {mean : ExcName → Option Value} {mg mb : Str → Option Value}
theorem size_does (fl : Addr) (k : Nat) (S : List Sy) (hn : S.length ≤ 40) (hb : ∀ t ∈ S, t.n.natAbs ≤ 1000 ∧ t.c.length ≤ 40) :
    Does w mean mg mb 383 10 [.ref fl] ((fl, listOf (S.map Sy.ref).toArray k) :: syAll S) (fun nw v => nw = [] ∧ ∃ t, v = .int (sizeF (S.map Sy.key)) t) := by
  refine unBox ?_
  simp (zetaDelta := true) (disch := (k_dflt (
    refine inBox ?_
    intro dp un gd cn cs a ccd cl outer A₀ base h₀ L' m s Q E B F X N T hk hd hu hret
    have cE := InElt.start s.heap
    walk_at "MyEnter"
    repeat ((fail_if_success (with_reducible show wpAny _ _ (eval (Expr.ListComp _ _ _ _) _) _ _ _)); (first | k_extra "MyQ" | (k_unfold; (try dsimp only)) | walk1 | (dsimp only; walk1)))
    rename Fr _ _ _ _ => F1
    refine comp_pairs F1 (fun t => !nowhere t.c) (fun t => PyData.int (t.n * (t.c.length : Int))) (by with_unfolding_all rfl) (by with_unfolding_all rfl) (by decide) (by with_unfolding_all rfl) (by decide) (by with_unfolding_all rfl) (by with_unfolding_all rfl) (by decide) ?_
    repeat ((fail_if_success (with_reducible show SySrc _ _ _ _ _ _ _ _ _ _ _ _ _ _ _ _ _ _)); (first | k_extra "MyQ" | (k_unfold; (try dsimp only)) | walk1 | (dsimp only; walk1)))
    rename Fr _ _ _ _ => F2
    rename News _ _ _ _ => N2
    refine ⟨fl, S, k, _, rfl, F2, N2, .head _, (by rw [PySem.sizeLine_eq]; omega), (fun p hp => .tail _ hp), ?g1, ?g2, ?g3⟩
    case g1 =>
      clear F2 N2
      intro I oI C oC D ys t h tk m₂ E' ht hoC hx hx2 F3 N3
      k_steps
      exact SyEnd.intro (by assumption) (by assumption) (fun p hp => .tail _ hp)
    case g2 =>
      clear F2 N2
      intro I oI C oC D ys t h tk m₂ E' ht hoC hx hx2 F3 N3 hpz
      have hbt := hb t ht
      k_steps
      · exact .int _ _
      · exact SyEnd.intro (by assumption) (by assumption) (fun p hp => hp)
    case g3 =>
      clear F2 N2
      intro D ys h' tk F3 N3 hcar
      have hi : IntsAre ys ((S.filter fun t => !nowhere t.c).map fun t => t.n * (t.c.length : Int)) := CarriedAll.intsOf hcar
      have hl : h'.IsList D ys.toArray := ⟨_, (N3 _ (.head _)).1, rfl, _, rfl⟩
      clear hcar
      k_steps
      exact hret _ _ _ _ (by assumption) (newsTake 0 (by assumption)) ⟨rfl, _, congrArg (Value.int · _) (by rw [sizeF, List.filter_map, List.map_map]; rfl)⟩
    ))) only [↓Box.of]
end
end
section
theorem kw_69_pn : True := by
  k_with_none
  k_with "MyEnter" => (refine wpAny_call ?_; k_dflt (refine' code_defG ?k1 ?k2 ?k3 ?k4 ?k5 ?kA ?kF ?kK ?k6 ?k7 ?k8 ?k9 ?kB ?_ ?c2 ?c3 ?c4 ?c5; (case kA => exact rfl); (case kF => exact rfl); (case kK => assumption); (case k1 => k_asm); (case k2 => k_asm); (case k3 => k_asm); (case k4 => k_asm); (case k5 => k_asm); (case k6 => k_is); (case k7 => k_is); (case k8 => ktr_room); (case k9 => first | exact BindsTo.of_eq rfl | exact binds_K (by k_in) rfl (by k_is) rfl rfl rfl); (case c5 => decide); (case kB => exact locs rfl); (case c2 => exact rfl); (case c3 => exact rfl); (case c4 => exact rfl); k_whole; intro g' L' h' FG' F' N' B' X' T' kG'; (try dsimp only); (try k_lift B'); (try k_fold)))
  k_with "binaryOp FloorDiv int int" => (k_here; (with_reducible refine floordiv_int ?d0 ?_ (Or.inl ?d1)); (case d0 => first | with_reducible assumption | decide | omega); (case d1 => first | with_reducible assumption | exact PyProof.noPylong_of_log2 (by decide +kernel)))
  k_with "MyKEnter" => ((fail_if_success k_inElt); (refine' code_defC ?k1 ?k2 ?k3 ?k4 ?k5 ?kA ?kF ?kK ?k6 ?k7 ?k8 ?k9 ?kB ?kD ?_ ?c2 ?c3 ?c4; (case kA => exact rfl); (case kF => exact rfl); (case kK => exact rfl); (case k1 => k_asm); (case k2 => k_asm); (case k3 => k_asm); (case k4 => k_asm); (case k5 => k_asm); (case k6 => k_is); (case k7 => k_is); (case k8 => ktr_room); (case k9 => first | exact BindsTo.of_eq rfl | exact binds_K (by k_in) rfl (by k_is) rfl rfl rfl | fail "k_enter: no rule for these arguments"); (case kB => exact rfl); (case kD => decide +kernel); (case c2 => exact rfl); (case c3 => exact rfl); (case c4 => exact rfl); k_whole; intro g' L' h' tk' cells' FG' F' N' Y' B' X' T' l1; (try k_lt l1); k_cells Y'; (try simp only [List.cons_append, List.nil_append] at N'); (try dsimp only); (try k_lift B'); (try k_fold)))
  k_with "MyKEnter" => ((fail_if_success k_inElt); (refine' code_def ?k1 ?k2 ?k3 ?k4 ?k5 ?kA ?kF ?kK ?k6 ?k7 ?k8 ?k9 ?kB ?_ ?c2 ?c3 ?c4 ?c5; (case kA => exact rfl); (case kF => exact rfl); (case kK => exact rfl); (case k1 => k_asm); (case k2 => k_asm); (case k3 => k_asm); (case k4 => k_asm); (case k5 => k_asm); (case k6 => k_is); (case k7 => k_is); (case k8 => ktr_room); (case k9 => first | exact BindsTo.of_eq rfl | exact binds_K (by k_in) rfl (by k_is) rfl rfl rfl | fail "k_enter: no rule for these arguments"); (case c5 => decide); (case kB => exact locs rfl); (case c2 => exact rfl); (case c3 => exact rfl); (case c4 => exact rfl); k_whole; intro g' L' h' FG' F' N' B' X' T'; (try dsimp only); (try k_lift B'); (try k_fold)))
  k_with "MyPre" => first | with_reducible assumption | omega | with_reducible decide | fail "MyPre"
  k_with "execs cons" => ((fail_if_success k_inElt); first | (with_reducible refine consQ (by with_reducible assumption) (fun Q9 hQ9 => ?_)) | (with_reducible refine consQQ (fun Q8 hQ8 Q9 hQ9 => ?_)))
  k_with "execs cons" => (k_made; walk_at "execs cons")
  k_with "execs cons" => ((with_reducible show wpAny _ _ _ _ _ (Shared.mk _ _ _ (@HAdd.hAdd Nat Nat Nat _ _ _) _)); refine stGen s rfl rfl rfl (fun tk9 => ?_); (try dsimp only))
  k_with "MyQ" => ((fail_if_success (with_reducible show wpAny _ _ _ _ _ _)); (with_reducible first | refine qNext (by with_reducible assumption) ?_ | refine qRet (by with_reducible assumption) ?_ | refine qBrk (by with_reducible assumption) ?_ | refine qCont (by with_reducible assumption) ?_ | refine qGen (by with_reducible assumption) ?_); (try dsimp only))
  k_with "MyAll" => first | k_extra "MyQ" | (k_unfold; (try dsimp only)) | (k_end; kc_close) | walk1 | (dsimp only; walk1) | (leave1; walk_say "STEP leave1"; (try dsimp only)) | fail "no step"
  k_with "eval Name" => (k_here; (with_reducible show wpAny _ _ (eval (Expr.Name _ _) (envOf _ _ _ _ _)) _ _ _); k_dflt (refine' ld ?k1 ?k2 ?_ rfl (by kernel_rfl!) (by kernel_rfl!); (case k1 => k_asm); (case k2 => exact rfl); k_whole))
  k_with "MySize" => ((with_reducible show List.length (List.nil) ≤ _); exact Nat.zero_le _)
  k_with "MyKSub" => (intro p77 hp77; (repeat (first | with_reducible exact hp77 | with_reducible refine List.mem_cons_of_mem _ ?_)); done)
  trivial
theorem kw_69_pn_a : True := by
  k_with "MyEnterC" => (
  k_dflt (refine' code_defG ?k1 ?k2 ?k3 ?k4 ?k5 ?kA ?kF ?kK ?k6 ?k7 ?k8 ?k9 ?kB ?_ ?c2 ?c3 ?c4 ?c5; (case kA => exact rfl); (case kF => exact rfl); (case kK => assumption); (case k1 => k_asm); (case k2 => k_asm); (case k3 => k_asm); (case k4 => k_asm); (case k5 => k_asm); (case k6 => k_is); (case k7 => k_is); (case k8 => ktr_room); (case k9 => first | exact BindsTo.of_eq rfl | exact binds_K (by k_in) rfl (by k_is) rfl rfl rfl); (case c5 => decide); (case kB => exact locs rfl); (case c2 => exact rfl); (case c3 => exact rfl); (case c4 => exact rfl); k_whole; intro g' L' h' FG' F' N' B' X' T' kG'; (try dsimp only); (try k_lift B'); (try k_fold)))
  k_with "MyNew" => (k_dflt (refine' clsE ?k1 ?k2 ?k3 ?k4 ?k5 ?k6 ?_; (case k1 => k_asm); (case k2 => k_asm); (case k3 => k_asm); (case k4 => k_is); (case k5 => k_is); (case k6 => k_is); k_whole); intro x' d' h' W' F' N' l1 l2; (try k_lt l1); (try k_lt2 l2))
  k_with "LeaveK" => (k_dflt ((fail_if_success k_inElt); (with_reducible rename NewAt _ _ _ _ => W9); (have cE := eltInit W9 (by assumption) (by assumption) (by k_asm) (by k_asm) (by first | exact List.forall_mem_nil _ | k_sub)); clear W9; walk_at "LeaveK"))
  trivial
section
variable {w : World} {mean : ExcName → Option Value} {mg mb : Str → Option Value}
theorem picture_new_does (y : Str) (fl : Addr) (g sc z : Int) (b : Bool) (t t1 t2 t3 t4 : Tok) :
    Does w mean mg mb 320 3 [.str y t, .ref fl, .str (Str.ofString "numeric") t1, .int g t2, .int sc t3, .bool b, .int z t4] [] (fun nw v => ∃ x d T, nw = [(x, instObj 320 d), (d, dictOf (picEs w T ⟨y, fl, g, sc, b, z⟩) 7)] ∧ v = .ref x) := by
  refine unBox ?_
  simp (zetaDelta := true) (disch := (k_dflt (
    refine inBox ?_
    intro dp un gd cn cs a ccd cl outer A₀ base h₀ L m s Q E B F X N T hk hd hu hret
    walk_at "MyNew"
    walk_at "MyEnterC"
    k_steps
    exact hret _ _ _ _ (by assumption) (by assumption) ⟨_, _, .mk _ _ _ _ _ _ _ _ _ _ _ _, rfl, rfl⟩
    ))) only [↓Box.of]
end
end
section
theorem kw_70_np : True := by
  k_with_none
  k_with "MyEnter" => (refine wpAny_call ?_; k_dflt (refine' code_defG ?k1 ?k2 ?k3 ?k4 ?k5 ?kA ?kF ?kK ?k6 ?k7 ?k8 ?k9 ?kB ?_ ?c2 ?c3 ?c4 ?c5; (case kA => exact rfl); (case kF => exact rfl); (case kK => assumption); (case k1 => k_asm); (case k2 => k_asm); (case k3 => k_asm); (case k4 => k_asm); (case k5 => k_asm); (case k6 => k_is); (case k7 => k_is); (case k8 => ktr_room); (case k9 => first | exact BindsTo.of_eq rfl | exact binds_K (by k_in) rfl (by k_is) rfl rfl rfl); (case c5 => decide); (case kB => exact locs rfl); (case c2 => exact rfl); (case c3 => exact rfl); (case c4 => exact rfl); k_whole; intro g' L' h' FG' F' N' B' X' T' kG'; (try dsimp only); (try k_lift B'); (try k_fold)))
  k_with "binaryOp FloorDiv int int" => (k_here; (with_reducible refine floordiv_int ?d0 ?_ (Or.inl ?d1)); (case d0 => first | with_reducible assumption | decide | omega); (case d1 => first | with_reducible assumption | exact PyProof.noPylong_of_log2 (by decide +kernel)))
  k_with "MyKEnter" => ((fail_if_success k_inElt); (refine' code_defC ?k1 ?k2 ?k3 ?k4 ?k5 ?kA ?kF ?kK ?k6 ?k7 ?k8 ?k9 ?kB ?kD ?_ ?c2 ?c3 ?c4; (case kA => exact rfl); (case kF => exact rfl); (case kK => exact rfl); (case k1 => k_asm); (case k2 => k_asm); (case k3 => k_asm); (case k4 => k_asm); (case k5 => k_asm); (case k6 => k_is); (case k7 => k_is); (case k8 => ktr_room); (case k9 => first | exact BindsTo.of_eq rfl | exact binds_K (by k_in) rfl (by k_is) rfl rfl rfl | fail "k_enter: no rule for these arguments"); (case kB => exact rfl); (case kD => decide +kernel); (case c2 => exact rfl); (case c3 => exact rfl); (case c4 => exact rfl); k_whole; intro g' L' h' tk' cells' FG' F' N' Y' B' X' T' l1; (try k_lt l1); k_cells Y'; (try simp only [List.cons_append, List.nil_append] at N'); (try dsimp only); (try k_lift B'); (try k_fold)))
  k_with "MyKEnter" => ((fail_if_success k_inElt); (refine' code_def ?k1 ?k2 ?k3 ?k4 ?k5 ?kA ?kF ?kK ?k6 ?k7 ?k8 ?k9 ?kB ?_ ?c2 ?c3 ?c4 ?c5; (case kA => exact rfl); (case kF => exact rfl); (case kK => exact rfl); (case k1 => k_asm); (case k2 => k_asm); (case k3 => k_asm); (case k4 => k_asm); (case k5 => k_asm); (case k6 => k_is); (case k7 => k_is); (case k8 => ktr_room); (case k9 => first | exact BindsTo.of_eq rfl | exact binds_K (by k_in) rfl (by k_is) rfl rfl rfl | fail "k_enter: no rule for these arguments"); (case c5 => decide); (case kB => exact locs rfl); (case c2 => exact rfl); (case c3 => exact rfl); (case c4 => exact rfl); k_whole; intro g' L' h' FG' F' N' B' X' T'; (try dsimp only); (try k_lift B'); (try k_fold)))
  k_with "MyPre" => first | with_reducible assumption | omega | with_reducible decide | fail "MyPre"
  k_with "execs cons" => ((fail_if_success k_inElt); first | (with_reducible refine consQ (by with_reducible assumption) (fun Q9 hQ9 => ?_)) | (with_reducible refine consQQ (fun Q8 hQ8 Q9 hQ9 => ?_)))
  k_with "execs cons" => (k_made; walk_at "execs cons")
  k_with "execs cons" => ((with_reducible show wpAny _ _ _ _ _ (Shared.mk _ _ _ (@HAdd.hAdd Nat Nat Nat _ _ _) _)); refine stGen s rfl rfl rfl (fun tk9 => ?_); (try dsimp only))
  k_with "MyQ" => ((fail_if_success (with_reducible show wpAny _ _ _ _ _ _)); (with_reducible first | refine qNext (by with_reducible assumption) ?_ | refine qRet (by with_reducible assumption) ?_ | refine qBrk (by with_reducible assumption) ?_ | refine qCont (by with_reducible assumption) ?_ | refine qGen (by with_reducible assumption) ?_); (try dsimp only))
  k_with "MyAll" => first | k_extra "MyQ" | (k_unfold; (try dsimp only)) | (k_end; kc_close) | walk1 | (dsimp only; walk1) | (leave1; walk_say "STEP leave1"; (try dsimp only)) | fail "no step"
  k_with "eval Name" => (k_here; (with_reducible show wpAny _ _ (eval (Expr.Name _ _) (envOf _ _ _ _ _)) _ _ _); k_dflt (refine' ld ?k1 ?k2 ?_ rfl (by kernel_rfl!) (by kernel_rfl!); (case k1 => k_asm); (case k2 => exact rfl); k_whole))
  k_with "MySize" => ((with_reducible show List.length (List.nil) ≤ _); exact Nat.zero_le _)
  k_with "MyKSub" => (intro p77 hp77; (repeat (first | with_reducible exact hp77 | with_reducible refine List.mem_cons_of_mem _ ?_)); done)
  trivial
theorem kw_70_np_a : True := by
  k_with "MyPre" => first | with_reducible assumption | omega | assumption | fail "MyPre"
  k_with "call ref" => (k_dflt (k_here; (with_reducible show wpAny _ _ (call (Value.ref 505) _) _ _ _); (fail_if_success k_inElt); k_dflt (refine' Does.use ?k1 ?k2 ?k3 ?k4 ?k5 ?kK (order_new_does ) ?kS ?kd ?ku ?_; (case k1 => k_asm); (case k2 => k_asm); (case k3 => k_asm); (case k4 => k_asm); (case k5 => k_asm); (case kK => first | exact rfl | assumption); (case kS => (repeat' (first | exact List.forall_mem_nil _ | (refine List.forall_mem_cons.mpr ⟨?_, ?_⟩) | k_mem | (intro p9 hp9; repeat' (first | exact hp9 | exact List.mem_append_left _ hp9 | exact List.mem_append_right _ hp9 | refine List.Mem.tail _ ?_ | refine List.mem_append_right _ ?_))))); (case kd => ktr_room); (case ku => ktr_units); k_whole); (intro v9 h9 tk9 nw9 E9 F9 N9 hp9; (obtain ⟨x9, d9, T9, hn9, hv9⟩ := hp9; subst hn9; subst hv9); (try simp only [List.nil_append, List.cons_append] at N9); (try dsimp only); (try k_sweep); (try clear E9))))
  k_with "call ref" => (k_dflt (k_here; (with_reducible show wpAny _ _ (call (Value.ref 378) _) _ _ _); (fail_if_success k_inElt); k_dflt (refine' Does.use ?k1 ?k2 ?k3 ?k4 ?k5 ?kK (symbols_of_does _ _ _ _ ?p0 ?p1 ?p2 ?p3) ?kS ?kd ?ku ?_; (case k1 => k_asm); (case k2 => k_asm); (case k3 => k_asm); (case k4 => k_asm); (case k5 => k_asm); (case kK => first | exact rfl | assumption); (case kS => (repeat' (first | exact List.forall_mem_nil _ | (refine List.forall_mem_cons.mpr ⟨?_, ?_⟩) | k_mem | (intro p9 hp9; repeat' (first | exact hp9 | exact List.mem_append_left _ hp9 | exact List.mem_append_right _ hp9 | refine List.Mem.tail _ ?_ | refine List.mem_append_right _ ?_))))); (case kd => ktr_room); (case ku => ktr_units); (case p0 => walk_at "MyPre"); (case p1 => walk_at "MyPre"); (case p2 => walk_at "MyPre"); (case p3 => walk_at "MyPre"); k_whole); (intro v9 h9 tk9 nw9 E9 F9 N9 hp9; (obtain ⟨f9, k9, S9, hn9, hv9, hS9⟩ := hp9; subst hn9; subst hv9); (try simp only [List.nil_append, List.cons_append] at N9); (try dsimp only); (try k_sweep); (try clear E9))))
  k_with "call ref" => (k_dflt (k_here; (with_reducible show wpAny _ _ (call (Value.ref 495) _) _ _ _); (fail_if_success k_inElt); k_dflt (refine' Does.use ?k1 ?k2 ?k3 ?k4 ?k5 ?kK (whole_does _ _ _ _ ?p0 ?p1 ?p2) ?kS ?kd ?ku ?_; (case k1 => k_asm); (case k2 => k_asm); (case k3 => k_asm); (case k4 => k_asm); (case k5 => k_asm); (case kK => first | exact rfl | assumption); (case kS => (repeat' (first | exact List.forall_mem_nil _ | (refine List.forall_mem_cons.mpr ⟨?_, ?_⟩) | k_mem | (intro p9 hp9; repeat' (first | exact hp9 | exact List.mem_append_left _ hp9 | exact List.mem_append_right _ hp9 | refine List.Mem.tail _ ?_ | refine List.mem_append_right _ ?_))))); (case kd => ktr_room); (case ku => ktr_units); (case p0 => walk_at "MyPre"); (case p1 => walk_at "MyPre"); (case p2 => walk_at "MyPre"); k_whole); (intro v9 h9 tk9 nw9 E9 F9 N9 hp9; (obtain ⟨hn9, hv9⟩ := hp9; subst hn9; subst hv9); (try simp only [List.nil_append, List.cons_append] at N9); (try dsimp only); (try k_sweep); (try clear E9))))
  k_with "call ref" => (k_dflt (k_here; (with_reducible show wpAny _ _ (call (Value.ref 383) _) _ _ _); (fail_if_success k_inElt); k_dflt (refine' Does.use ?k1 ?k2 ?k3 ?k4 ?k5 ?kK (size_does _ _ _ ?p0 ?p1) ?kS ?kd ?ku ?_; (case k1 => k_asm); (case k2 => k_asm); (case k3 => k_asm); (case k4 => k_asm); (case k5 => k_asm); (case kK => first | exact rfl | assumption); (case kS => (repeat' (first | exact List.forall_mem_nil _ | (refine List.forall_mem_cons.mpr ⟨?_, ?_⟩) | k_mem | (intro p9 hp9; repeat' (first | exact hp9 | exact List.mem_append_left _ hp9 | exact List.mem_append_right _ hp9 | refine List.Mem.tail _ ?_ | refine List.mem_append_right _ ?_))))); (case kd => ktr_room); (case ku => ktr_units); (case p0 => walk_at "MyPre"); (case p1 => walk_at "MyPre"); k_whole); (intro v9 h9 tk9 nw9 E9 F9 N9 hp9; (obtain ⟨hn9, t9, hv9⟩ := hp9; subst hn9; subst hv9); (try simp only [List.nil_append, List.cons_append] at N9); (try dsimp only); (try k_sweep); (try clear E9))))
  k_with "call ref" => (k_dflt (k_here; (with_reducible show wpAny _ _ (call (Value.ref 404) _) _ _ _); (fail_if_success k_inElt); k_dflt (refine' Does.use ?k1 ?k2 ?k3 ?k4 ?k5 ?kK (digits_does _ _ _ _) ?kS ?kd ?ku ?_; (case k1 => k_asm); (case k2 => k_asm); (case k3 => k_asm); (case k4 => k_asm); (case k5 => k_asm); (case kK => first | exact rfl | assumption); (case kS => (repeat' (first | exact List.forall_mem_nil _ | (refine List.forall_mem_cons.mpr ⟨?_, ?_⟩) | k_mem | (intro p9 hp9; repeat' (first | exact hp9 | exact List.mem_append_left _ hp9 | exact List.mem_append_right _ hp9 | refine List.Mem.tail _ ?_ | refine List.mem_append_right _ ?_))))); (case kd => ktr_room); (case ku => ktr_units); k_whole); (intro v9 h9 tk9 nw9 E9 F9 N9 hp9; (obtain ⟨hn9, t9, hv9⟩ := hp9; subst hn9; subst hv9); (try simp only [List.nil_append, List.cons_append] at N9); (try dsimp only); (try k_sweep); (try clear E9))))
  k_with "call ref" => (k_dflt (k_here; (with_reducible show wpAny _ _ (call (Value.ref 502) _) _ _ _); (fail_if_success k_inElt); k_dflt (refine' Does.use ?k1 ?k2 ?k3 ?k4 ?k5 ?kK (scale_does _ _ _ _) ?kS ?kd ?ku ?_; (case k1 => k_asm); (case k2 => k_asm); (case k3 => k_asm); (case k4 => k_asm); (case k5 => k_asm); (case kK => first | exact rfl | assumption); (case kS => (repeat' (first | exact List.forall_mem_nil _ | (refine List.forall_mem_cons.mpr ⟨?_, ?_⟩) | k_mem | (intro p9 hp9; repeat' (first | exact hp9 | exact List.mem_append_left _ hp9 | exact List.mem_append_right _ hp9 | refine List.Mem.tail _ ?_ | refine List.mem_append_right _ ?_))))); (case kd => ktr_room); (case ku => ktr_units); k_whole); (intro v9 h9 tk9 nw9 E9 F9 N9 hp9; (obtain ⟨hn9, t9, hv9⟩ := hp9; subst hn9; subst hv9); (try simp only [List.nil_append, List.cons_append] at N9); (try dsimp only); (try k_sweep); (try clear E9))))
  k_with "call ref" => (k_dflt (k_here; (with_reducible show wpAny _ _ (call (Value.ref 320) _) _ _ _); (fail_if_success k_inElt); k_dflt (refine' Does.use ?k1 ?k2 ?k3 ?k4 ?k5 ?kK (picture_new_does _ _ _ _ _ _ _ _ _ _ _) ?kS ?kd ?ku ?_; (case k1 => k_asm); (case k2 => k_asm); (case k3 => k_asm); (case k4 => k_asm); (case k5 => k_asm); (case kK => first | exact rfl | assumption); (case kS => (repeat' (first | exact List.forall_mem_nil _ | (refine List.forall_mem_cons.mpr ⟨?_, ?_⟩) | k_mem | (intro p9 hp9; repeat' (first | exact hp9 | exact List.mem_append_left _ hp9 | exact List.mem_append_right _ hp9 | refine List.Mem.tail _ ?_ | refine List.mem_append_right _ ?_))))); (case kd => ktr_room); (case ku => ktr_units); k_whole); (intro v9 h9 tk9 nw9 E9 F9 N9 hp9; (obtain ⟨x9, d9, T9, hn9, hv9⟩ := hp9; subst hn9; subst hv9); (try simp only [List.nil_append, List.cons_append] at N9); (try dsimp only); (try k_sweep); (try clear E9))))
  trivial
noncomputable def plainC (c : Str) : Bool := [Str.ofString "9", Str.ofString "P", Str.ofString "S", Str.ofString "V"].any fun x => x == c
noncomputable def takesF : OrS → List (Str × Int × Int) → Option OrS
  | st, [] => some st
  | st, p :: r => (takeStep st p.1 p.2.1).bind fun st' => takesF st' r
/-- between the turns of the order's taking -/
structure TakR (w : World) (o od : Addr) (own : List (Addr × Obj)) (M : Str → Option Value) (L : List Sg) (stF : OrS) (pre : List Value) (m : Str → Option Value) (news : List (Addr × Obj)) : Prop where
  ex : ∃ (L1 L2 : List Sg) (st : OrS) (T : OrT) (u : Option Value), L = L1 ++ L2 ∧ pre = L1.map Sg.ref ∧ takesF st (L2.map Sg.key) = some stF ∧ news = (o, instObj 505 od) :: (od, dictOf (orEs w T st) 16) :: own ∧ m = fun y => if y = Str.ofString "one" then u else M y
theorem TakR.start {w : World} {o od : Addr} {own : List (Addr × Obj)} {m : Str → Option Value} {L : List Sg} {stF : OrS} {T : OrT} (h : takesF ord0 (L.map Sg.key) = some stF) :
    TakR w o od own m L stF [] m ((o, instObj 505 od) :: (od, dictOf (orEs w T ord0) 16) :: own) := ⟨[], L, ord0, T, m (Str.ofString "one"), rfl, rfl, h, rfl, mSelf m _⟩
theorem offObj {g h : Heap} {L : Addr} {b : Addr} {o : Obj} {own news : List (Addr × Obj)} (N : News g L h news) (hb : (b, o) ∈ news) (hs : ∀ p ∈ own, p ∈ news) (hc : ∀ p ∈ own, p.2 ≠ o) : OwnOff own [b] := fun p hp b' hb' e => by
  rw [List.mem_singleton.mp hb'] at e
  have h1 := N.get (hs p hp)
  rw [e] at h1
  exact hc p hp (Option.some.inj (h1.symm.trans (N.get hb)))
theorem dict_len {es es' : List DictEntry} {n n' : Nat} (h : n ≠ n') : dictOf es n ≠ dictOf es' n' := fun e => by
  have q := congrArg Obj.data e
  injection q with _ q
  exact h q
theorem sg_notOrd {w : World} {L : List Sg} {es : List DictEntry} : ∀ p ∈ sgAll w L, p.2 ≠ dictOf es 16 := fun p hp => by
  obtain ⟨s, _, hp⟩ := List.mem_flatMap.mp hp
  rcases List.mem_cons.mp hp with rfl | hp
  · intro e; cases congrArg Obj.cls e
  · rcases List.mem_cons.mp hp with rfl | hp
    · exact dict_len (by decide)
    · cases hp
theorem ordFront {w : World} {g h : Heap} {L : Addr} {a f o l : Addr × Obj} {od : Addr} {T : OrT} {S : List (Addr × Obj)} {r : List (Addr × Obj)} (N : News g L h (a :: f :: (S ++ o :: (od, dictOf (orEs w T ord0) 16) :: l :: r))) : News g L h (o :: (od, dictOf (orEs w T ord0) 16) :: f :: (S ++ l :: r)) := fun p hp => by
  rcases List.mem_cons.mp hp with rfl | hp
  · exact N _ (.tail _ (.tail _ (List.mem_append_right _ (.head _))))
  · rcases List.mem_cons.mp hp with rfl | hp
    · exact N _ (.tail _ (.tail _ (List.mem_append_right _ (.tail _ (.head _)))))
    · rcases List.mem_cons.mp hp with rfl | hp
      · exact N _ (.tail _ (.head _))
      · rcases List.mem_append.mp hp with hp | hp
        · exact N _ (.tail _ (.tail _ (List.mem_append_left _ hp)))
        · exact N _ (.tail _ (.tail _ (List.mem_append_right _ (.tail _ (.tail _ hp)))))
theorem takesF_cons {st : OrS} {p : Str × Int × Int} {r : List (Str × Int × Int)} {stF : OrS} (h : takesF st (p :: r) = some stF) : ∃ st2, takeStep st p.1 p.2.1 = some st2 ∧ takesF st2 r = some stF := by
  have h' : (takeStep st p.1 p.2.1).bind (fun st' => takesF st' r) = some stF := h
  cases e : takeStep st p.1 p.2.1 with
  | none => rw [e] at h'; cases h'
  | some st2 => rw [e] at h'; exact ⟨st2, rfl, h'⟩
theorem ownNotOrd {w : World} {I f l : Addr} {it : Obj} {vs us : Array Value} {j k : Nat} {S : List Sy} {L : List Sg} {es : List DictEntry} (hit : it.cls = .type "list_iterator") : ∀ p ∈ (I, it) :: (f, listOf vs j) :: (syAll S ++ (l, listOf us k) :: sgAll w L), p.2 ≠ dictOf es 16 := fun p hp e => by
  have hl : ∀ n, (listOf us n).cls ≠ (dictOf es 16).cls := fun _ q => absurd (Value.type.inj q) (by decide)
  rcases List.mem_cons.mp hp with rfl | hp
  · have q := hit.symm.trans (congrArg Obj.cls e)
    exact absurd (Value.type.inj q) (by decide)
  · rcases List.mem_cons.mp hp with rfl | hp
    · exact absurd (Value.type.inj (congrArg Obj.cls e)) (by decide)
    · rcases List.mem_append.mp hp with hp | hp
      · obtain ⟨t, _, rfl⟩ := List.mem_map.mp hp
        exact absurd (Value.type.inj (congrArg Obj.cls e)) (by decide)
      · rcases List.mem_cons.mp hp with rfl | hp
        · exact absurd (Value.type.inj (congrArg Obj.cls e)) (by decide)
        · exact sg_notOrd p hp e
theorem takEnd {w : World} {g h' : Heap} {L' o od f l I : Addr} {it : Obj} {vs us : Array Value} {j k : Nat} {S : List Sy} {L L1 L3 : List Sg} {s1 : Sg} {st2 stF : OrS} {T : OrT} {M m' : Str → Option Value} {a b : Addr × Obj} {s₁ : Shared} {tk : Nat} (u : Option Value)
    (FE : Fr g L' h' m') (NE : News g L' h' ((o, instObj 505 od) :: (od, dictOf (orEs w T st2) 16) :: a :: b :: (I, it) :: (f, listOf vs j) :: (syAll S ++ (l, listOf us k) :: sgAll w L))) (hit : it.cls = .type "list_iterator") (hL : L = L1 ++ s1 :: L3) (htk : takesF st2 (L3.map Sg.key) = some stF) (hm : m' = fun y => if y = Str.ofString "one" then u else M y) :
    UnrEnd g L' s₁ I it (fun m' n' => (l, listOf us k) ∈ n' ∧ TakR w o od ((f, listOf vs j) :: (syAll S ++ (l, listOf us k) :: sgAll w L)) M L stF (L1.map Sg.ref ++ [s1.ref]) m' n') { s₁ with heap := h', toks := tk } := by
  refine unrEndC FE NE ((o, instObj 505 od) :: (od, dictOf (orEs w T st2) 16) :: (f, listOf vs j) :: (syAll S ++ (l, listOf us k) :: sgAll w L)) hit (.tail _ (.tail _ (.tail _ (.tail _ (.head _))))) ?_ ?_ ⟨.tail _ (.tail _ (.tail _ (List.mem_append_right _ (.head _)))), ⟨L1 ++ [s1], L3, st2, T, u, by rw [hL, List.append_assoc]; rfl, by rw [List.map_append]; rfl, htk, rfl, hm⟩⟩
  · intro p hp
    rcases List.mem_cons.mp hp with rfl | hp
    · exact .head _
    · rcases List.mem_cons.mp hp with rfl | hp
      · exact .tail _ (.head _)
      · exact .tail _ (.tail _ (.tail _ (.tail _ (.tail _ hp))))
  · intro p hp
    rcases List.mem_cons.mp hp with rfl | hp
    · intro q; cases q
    · rcases List.mem_cons.mp hp with rfl | hp
      · intro q; exact absurd (Value.type.inj q) (by decide)
      · rcases List.mem_cons.mp hp with rfl | hp
        · intro q; exact absurd (Value.type.inj q) (by decide)
        · rcases List.mem_append.mp hp with hp | hp
          · obtain ⟨t, _, rfl⟩ := List.mem_map.mp hp
            intro q; exact absurd (Value.type.inj q) (by decide)
          · rcases List.mem_cons.mp hp with rfl | hp
            · intro q; exact absurd (Value.type.inj q) (by decide)
            · exact sg_notIter p hp
theorem npFin {w : World} {y : Str} {g sc z z' : Int} {b b' : Bool} {p dp fl : Addr} {lo : Obj} {T : PcT} (e1 : b' = b) (e2 : z' = z) :
    ∃ p' dp' fl' lo' T', [(p, instObj 320 dp), (dp, dictOf (picEs w T ⟨y, fl, g, sc, b', z'⟩) 7), (fl, lo)] = [(p', instObj 320 dp'), (dp', dictOf (picEs w T' ⟨y, fl', g, sc, b, z⟩) 7), (fl', lo')] ∧ Value.ref p = .ref p' := ⟨p, dp, fl, lo, T, by rw [e1, e2], rfl⟩
section
variable {w : World} {mean : ExcName → Option Value} {mg mb : Str → Option Value}
theorem number_picture_does (y : Str) (l : Addr) (kk : Nat) (L : List Sg) (F₀ : List (Str × Int)) (st : OrS) (t : Tok) (hn : L.length ≤ 40) (hstr : ∀ s ∈ L, PyData.strOk s.c = true) (h1 : symOk [] (L.map Sg.key) = true) (h2 : (L.map Sg.key).foldl symStep [] = F₀)
    (h3 : takesF ord0 (L.map Sg.key) = some st) (h4 : 0 < st.nines) (h5 : st.nines + st.lead + st.trail ≤ 18) (h6 : ([Str.ofString ",", Str.ofString "."].any fun x => x == st.last) = false) (h7 : sizeF F₀ ≤ 9999) (h8 : F₀.length ≤ 40) (hz0 : ∀ q ∈ F₀, (q.2.natAbs ≤ 1000 ∧ q.1.length ≤ 40) ∧ plainC q.1 = true) :
    Does w mean mg mb 514 30 [.str y t, .ref l] ((l, listOf (L.map Sg.ref).toArray kk) :: sgAll w L)
      (fun nw v => ∃ p dp fl lo T, nw = [(p, instObj 320 dp), (dp, dictOf (picEs w T ⟨y, fl, st.nines, if 0 < st.lead then st.lead + st.nines else st.behind - st.trail, st.plain, sizeF F₀⟩) 7), (fl, lo)] ∧ v = .ref p) := by
  refine unBox ?_
  simp (zetaDelta := true) (disch := (k_dflt (
    refine inBox ?_
    intro dp un gd cn cs a ccd cl outer A₀ base h₀ L' m s Q E B F X N T hk hd hu hret
    have cE := InElt.start s.heap
    walk_at "MyEnter"
    repeat ((fail_if_success (with_reducible show wpAny _ _ (exec (Stmt.For _ _ _ _ _) _) _ _ _)); (first | k_extra "MyQ" | (k_unfold; (try dsimp only)) | walk1 | (dsimp only; walk1)))
    rename Fr _ _ _ _ => F0
    rename News _ _ _ _ => N0
    rename List Sy => S9
    have N1 := ordFront N0
    refine' For_invVF F0 ?k1 ?k2 ?_
    case k1 => exact rfl
    case k2 => exact rfl
    repeat ((fail_if_success (with_reducible show wpAny _ _ (pyIter _) _ _ _)); (first | k_extra "MyQ" | (k_unfold; (try dsimp only)) | walk1 | (dsimp only; walk1)))
    rename Fr _ _ _ _ => F1
    refine iter_listUnr (lo := listOf (L.map Sg.ref).toArray kk) (vs := L.map Sg.ref) (n := kk) rfl F1 N1 (.tail _ (.tail _ (.tail _ (List.mem_append_right _ (.head _))))) rfl rfl (fun I lI => ?_)
    refine refInd (TakR w _ _ _ _ L st) ?turn ?done (L.map Sg.ref) [] _ _ rfl (TakR.start h3)
    case turn =>
      clear F1 N1 N0 lI
      rintro pre v post m1 news1 e1 ⟨L1, L2, st1, T1, u, hL, hpre, htk, rfl, rfl⟩ it h1' tk1 hit F2 N2
      subst hL hpre
      obtain ⟨s1, L3, rfl, rfl⟩ := splitRef e1
      obtain ⟨st2, hst, htk2⟩ := takesF_cons htk
      have hin := sg_in (w := w) (L := L1 ++ s1 :: L3) (s := s1) (by simp)
      have hown := offObj N2 (.tail _ (.tail _ (.head _))) (fun p hp => by rcases List.mem_cons.mp hp with rfl | hp; exact .head _; exact .tail _ (.tail _ (.tail _ hp))) (ownNotOrd hit)
      have ho := newsNe N2 (.tail _ (.tail _ (.head _))) (.tail _ (.head _)) (by intro e; cases e)
      have hmx := List.mem_append_right (syAll S9) (List.Mem.tail (l, listOf (List.map Sg.ref (L1 ++ s1 :: L3)).toArray kk) hin.1)
      have hmd := List.mem_append_right (syAll S9) (List.Mem.tail (l, listOf (List.map Sg.ref (L1 ++ s1 :: L3)).toArray kk) hin.2)
      have hx := (hown.ne (.head _) _ (.tail _ (.tail _ hmx))).symm
      have hd' := (hown.ne (.head _) _ (.tail _ (.tail _ hmd))).symm
      have N3 := newsIn (newsIn N2 (.tail _ (.tail _ (.tail _ (.tail _ hmd))))) (.tail _ (.tail _ (.tail _ (.tail _ (.tail _ hmx)))))
      clear N2
      dsimp only at hx hd'
      repeat ((fail_if_success (with_reducible show wpAny _ _ (call (Value.ref 488) _) _ _ _)); (first | k_extra "MyQ" | (k_unfold; (try dsimp only)) | walk1 | (dsimp only; walk1)))
      refine DoesL.use (own := (I, it) :: _) (by k_asm) (by k_asm) (by k_asm) N3 (by k_asm) rfl (take_does _ _ _ _ T1 st1 st2 s1.T s1.c s1.n s1.i ho hx hd' hst) (by repeat' (first | exact List.forall_mem_nil _ | (refine List.forall_mem_cons.mpr ⟨?_, ?_⟩) | k_mem)) (fun p hp => by rcases List.mem_cons.mp hp with rfl | hp; exact .tail _ (.tail _ (.head _)); exact .tail _ (.tail _ (.tail _ (.tail _ (.tail _ hp))))) hown (by ktr_room) (by ktr_units) ?_
      intro v9 h9 tk9 N9 F9 NN hp9
      obtain ⟨rfl, T', rfl⟩ := hp9
      clear N3
      simp only [List.cons_append, List.nil_append] at NN
      (try dsimp only)
      k_steps
      exact takEnd (S := S9) _ F9 NN hit rfl htk2 mOver
    case done =>
      clear F1 N1 N0 lI
      rintro m1 news1 h1' tk1 ⟨L1, L2, st1, T1, u, hL, hpre, htk, rfl, rfl⟩ F2 N2
      have hL2 : L2 = [] := by
        have e := congrArg List.length hpre
        rw [List.nil_append, hL] at e
        simp at e
        exact e
      subst hL2
      have hst : st1 = st := Option.some.inj htk
      subst hst
      rename (List.map Sy.key _ = _) => hS9
      have h7' : sizeF (List.map Sy.key S9) ≤ 9999 := by rw [hS9]; exact h7
      have hSl : S9.length ≤ 40 := by rw [← List.length_map (f := Sy.key), hS9]; exact h8
      have hSb : ∀ t ∈ S9, t.n.natAbs ≤ 1000 ∧ t.c.length ≤ 40 := fun t ht => (hz0 t.key (by rw [← hS9]; exact List.mem_map.mpr ⟨t, ht, rfl⟩)).1
      have hSp : ∀ t ∈ S9, plainC t.c = true := fun t ht => (hz0 t.key (by rw [← hS9]; exact List.mem_map.mpr ⟨t, ht, rfl⟩)).2
      (try k_fold)
      repeat ((fail_if_success (with_reducible show wpAny _ _ (eval (Expr.ListComp _ _ _ _) _) _ _ _)); (first | k_extra "MyQ" | (k_unfold; (try dsimp only)) | walk1 | (dsimp only; walk1)))
      rename Fr _ _ _ _ => F1
      refine comp_pairs F1 (fun t => !plainC t.c) (fun t => PyData.str t.c) (by with_unfolding_all rfl) (by with_unfolding_all rfl) (by decide) (by with_unfolding_all rfl) (by decide) (by with_unfolding_all rfl) (by with_unfolding_all rfl) (by decide) ?_
      repeat ((fail_if_success (with_reducible show SySrc _ _ _ _ _ _ _ _ _ _ _ _ _ _ _ _ _ _)); (first | k_extra "MyQ" | (k_unfold; (try dsimp only)) | walk1 | (dsimp only; walk1)))
      rename Fr _ _ _ _ => F4
      rename News _ _ _ _ => N4
      refine ⟨_, S9, _, _, rfl, F4, N4, by k_mem, (by rw [PySem.sizeLine_eq]; omega), (fun p hp => .tail _ (.tail _ (.tail _ (List.mem_append_left _ hp)))), ?g1, ?g2, ?g3⟩
      case g1 =>
        clear F4 N4
        intro I oI C oC D ys t h tk m₂ E' ht hoC hx hx2 F3 N3
        k_steps
        exact SyEnd.intro (by assumption) (by assumption) (fun p hp => .tail _ hp)
      case g2 =>
        clear F4 N4
        intro I oI C oC D ys t h tk m₂ E' ht hoC hx hx2 F3 N3 hpz
        have hpz2 : (!plainC t.c) = true := hpz
        rw [hSp t ht] at hpz2
        cases hpz2
      case g3 =>
        clear F4 N4
        intro D ys h' tk F3 N3 hcar
        have hys : ys = [] := by
          rw [List.filter_eq_nil_iff.mpr (fun t ht => by rw [hSp t ht]; exact Bool.false_ne_true)] at hcar
          cases hcar; rfl
        subst hys
        clear hcar
        repeat ((fail_if_success (with_reducible show wpAny _ _ (exec (Stmt.Assign _ (Expr.BoolOp _ _ _) _) _) _ _ _)); (first | k_extra "MyQ" | (k_unfold; (try dsimp only)) | walk1 | (dsimp only; walk1)))
        rename Fr _ _ _ _ => F9
        rename News _ _ _ _ => N9
        refine joinStore (x := Str.ofString "is_signed") (P := fun v => v = .bool st1.plain) F9 N9 ?sg ?go9
        case sg =>
          k_steps
          all_goals (rename News _ _ _ _ => NZ)
          all_goals (rename Fr _ _ _ _ => FZ)
          all_goals exact StP.store rfl (congrArg Value.bool (by first | (rw [show st1.plain = true from by assumption]; done) | (rw [show st1.plain = false from by assumption]; first | done | decide +kernel))) FZ (cb_drop NZ (fun p hp => by repeat (first | exact hp | refine List.Mem.tail _ ?_)))
        case go9 =>
          clear F9 N9
          rintro v9 hq1 tq1 rfl F9 N9
          k_steps
          rename News _ _ _ _ => NE
          have N5 := cb_drop (news := [_, _, _]) NE (List.forall_mem_cons.mpr ⟨.head _, List.forall_mem_cons.mpr ⟨.tail _ (.head _), List.forall_mem_cons.mpr ⟨.tail _ (.tail _ (.tail _ (.tail _ (.tail _ (.tail _ (.head _)))))), List.forall_mem_nil _⟩⟩⟩)
          exact hret _ _ _ _ (by assumption) N5 (npFin rfl (by rw [hS9]))
    ))) only [↓Box.of]
end
end
section
theorem kw_71_rp : True := by
  k_with_none
  k_with "MyEnter" => (refine wpAny_call ?_; k_dflt (refine' code_defG ?k1 ?k2 ?k3 ?k4 ?k5 ?kA ?kF ?kK ?k6 ?k7 ?k8 ?k9 ?kB ?_ ?c2 ?c3 ?c4 ?c5; (case kA => exact rfl); (case kF => exact rfl); (case kK => assumption); (case k1 => k_asm); (case k2 => k_asm); (case k3 => k_asm); (case k4 => k_asm); (case k5 => k_asm); (case k6 => k_is); (case k7 => k_is); (case k8 => ktr_room); (case k9 => first | exact BindsTo.of_eq rfl | exact binds_K (by k_in) rfl (by k_is) rfl rfl rfl); (case c5 => decide); (case kB => exact locs rfl); (case c2 => exact rfl); (case c3 => exact rfl); (case c4 => exact rfl); k_whole; intro g' L' h' FG' F' N' B' X' T' kG'; (try dsimp only); (try k_lift B'); (try k_fold)))
  k_with "binaryOp FloorDiv int int" => (k_here; (with_reducible refine floordiv_int ?d0 ?_ (Or.inl ?d1)); (case d0 => first | with_reducible assumption | decide | omega); (case d1 => first | with_reducible assumption | exact PyProof.noPylong_of_log2 (by decide +kernel)))
  k_with "MyKEnter" => ((fail_if_success k_inElt); (refine' code_defC ?k1 ?k2 ?k3 ?k4 ?k5 ?kA ?kF ?kK ?k6 ?k7 ?k8 ?k9 ?kB ?kD ?_ ?c2 ?c3 ?c4; (case kA => exact rfl); (case kF => exact rfl); (case kK => exact rfl); (case k1 => k_asm); (case k2 => k_asm); (case k3 => k_asm); (case k4 => k_asm); (case k5 => k_asm); (case k6 => k_is); (case k7 => k_is); (case k8 => ktr_room); (case k9 => first | exact BindsTo.of_eq rfl | exact binds_K (by k_in) rfl (by k_is) rfl rfl rfl | fail "k_enter: no rule for these arguments"); (case kB => exact rfl); (case kD => decide +kernel); (case c2 => exact rfl); (case c3 => exact rfl); (case c4 => exact rfl); k_whole; intro g' L' h' tk' cells' FG' F' N' Y' B' X' T' l1; (try k_lt l1); k_cells Y'; (try simp only [List.cons_append, List.nil_append] at N'); (try dsimp only); (try k_lift B'); (try k_fold)))
  k_with "MyKEnter" => ((fail_if_success k_inElt); (refine' code_def ?k1 ?k2 ?k3 ?k4 ?k5 ?kA ?kF ?kK ?k6 ?k7 ?k8 ?k9 ?kB ?_ ?c2 ?c3 ?c4 ?c5; (case kA => exact rfl); (case kF => exact rfl); (case kK => exact rfl); (case k1 => k_asm); (case k2 => k_asm); (case k3 => k_asm); (case k4 => k_asm); (case k5 => k_asm); (case k6 => k_is); (case k7 => k_is); (case k8 => ktr_room); (case k9 => first | exact BindsTo.of_eq rfl | exact binds_K (by k_in) rfl (by k_is) rfl rfl rfl | fail "k_enter: no rule for these arguments"); (case c5 => decide); (case kB => exact locs rfl); (case c2 => exact rfl); (case c3 => exact rfl); (case c4 => exact rfl); k_whole; intro g' L' h' FG' F' N' B' X' T'; (try dsimp only); (try k_lift B'); (try k_fold)))
  k_with "MyPre" => first | with_reducible assumption | omega | with_reducible decide | fail "MyPre"
  k_with "execs cons" => ((fail_if_success k_inElt); first | (with_reducible refine consQ (by with_reducible assumption) (fun Q9 hQ9 => ?_)) | (with_reducible refine consQQ (fun Q8 hQ8 Q9 hQ9 => ?_)))
  k_with "execs cons" => (k_made; walk_at "execs cons")
  k_with "execs cons" => ((with_reducible show wpAny _ _ _ _ _ (Shared.mk _ _ _ (@HAdd.hAdd Nat Nat Nat _ _ _) _)); refine stGen s rfl rfl rfl (fun tk9 => ?_); (try dsimp only))
  k_with "MyQ" => ((fail_if_success (with_reducible show wpAny _ _ _ _ _ _)); (with_reducible first | refine qNext (by with_reducible assumption) ?_ | refine qRet (by with_reducible assumption) ?_ | refine qBrk (by with_reducible assumption) ?_ | refine qCont (by with_reducible assumption) ?_ | refine qGen (by with_reducible assumption) ?_); (try dsimp only))
  k_with "MyAll" => first | k_extra "MyQ" | (k_unfold; (try dsimp only)) | (k_end; kc_close) | walk1 | (dsimp only; walk1) | (leave1; walk_say "STEP leave1"; (try dsimp only)) | fail "no step"
  k_with "eval Name" => (k_here; (with_reducible show wpAny _ _ (eval (Expr.Name _ _) (envOf _ _ _ _ _)) _ _ _); k_dflt (refine' ld ?k1 ?k2 ?_ rfl (by kernel_rfl!) (by kernel_rfl!); (case k1 => k_asm); (case k2 => exact rfl); k_whole))
  k_with "MySize" => ((with_reducible show List.length (List.nil) ≤ _); exact Nat.zero_le _)
  k_with "MyKSub" => (intro p77 hp77; (repeat (first | with_reducible exact hp77 | with_reducible refine List.mem_cons_of_mem _ ?_)); done)
  trivial
section
open PySem.Calls PyProof PySem.Spec PyProof.Rows.LCg PyProof.Rows.LCt
variable {prog : Program} {w : World} {A : Around} {E : Value → Shared → Prop} {s : Shared} {env : Env} {h₀ : Heap} {L : Addr} {m : Str → Option Value}
theorem restT_none {ct elt : PySem.Expr} {x : Str} {scope : Scope} {cl : List (Str × Addr)} {S : List (Addr × Obj) → Prop} {P : Nat → Value → Prop} {Fin : List Value → List (Addr × Obj) → Prop} {news : List (Addr × Obj)} (hS : S news) (fin : Fin [] news)
    (turn : ∀ i v I oI C oC D m₂ h tk (E' : Value → Shared → Prop), P i v → NsObj oC m₂ → m₂ x = some v → Fr h₀ L h m → News h₀ L h ((I, oI) :: (C, oC) :: (D, lst []) :: news) →
      wpAny (model prog w) A (isTrue ct (compEnvC scope cl C env) (eval ct (compEnvC scope cl C env))) (fun ok s' => ok = false ∧ SyEnd h₀ L m s ((I, oI) :: (C, oC) :: (D, lst []) :: news) s') E' { s with heap := h, toks := tk }) :
    ∀ k i, CompRestT prog w A h₀ L m env ct elt x scope cl s S P Fin k i [] news
  | 0, _ => .zero fin
  | k + 1, i => .succ fun v I oI C oC D m₂ h tk E' hp hC hx F N off _ =>
    wpAny_mono (turn i v I oI C oC D m₂ h tk E' hp hC hx F N) (fun ok s' z => by
      obtain ⟨rfl, h', tk', rfl, F', N'⟩ := z
      rw [if_neg Bool.false_ne_true]
      exact ⟨h', tk', news, rfl, F', N', off, hS, restT_none hS fin turn k (i + 1)⟩) fun _ _ e => e
end
/-- as Does; and what is laid is new -/
noncomputable def DoesF (w : World) (mean : ExcName → Option Value) (mg mb : Str → Option Value) (f : Addr) (deep : Nat) (vs : List Value) (N0 : List (Addr × Obj)) (post : List (Addr × Obj) → Value → Prop) : Prop :=
  ∀ (dp un : Nat) (gd : Option (List Code)) (cn : Str) (cs : Scope) (a : Addr) (ccd : Value) (cl : List (Str × Addr)) (outer : List Env) (A₀ : Around) (base h₀ : Heap) (L : Addr) (m : Str → Option Value) (s : Shared) (Q E : Value → Shared → Prop),
    Below A₀ base outer h₀ → Fr h₀ L s.heap m → (hdK w.params).In h₀ → News h₀ L s.heap N0 → Top hdV LW mean mg mb h₀ → cs.kind = .function →
    dp + deep < recursionLimit → un + 8 * deep < cLine →
    (∀ v h' tk' nw, InElt s.heap h' → News h₀ L h' nw → (∀ p ∈ nw, s.heap.get? p.1 = none) → post nw v → Q v { s with heap := h', toks := tk' }) →
    wpAny (model PR w) (ktrTop dp un gd cn cs L a ccd cl outer) (call (.ref f) vs) Q E s
theorem DoesF.use {w : World} {mean : ExcName → Option Value} {mg mb : Str → Option Value} {f : Addr} {deep : Nat} {vs : List Value} {N0 news : List (Addr × Obj)} {post : List (Addr × Obj) → Value → Prop}
    {dp un : Nat} {gd : Option (List Code)} {cn : Str} {cs : Scope} {a : Addr} {ccd : Value} {cl : List (Str × Addr)} {outer : List Env} {A₀ : Around} {base h₀ : Heap} {L : Addr} {m : Str → Option Value} {s : Shared} {Q E : Value → Shared → Prop}
    (B : Below A₀ base outer h₀) (F : Fr h₀ L s.heap m) (X : (hdK w.params).In h₀) (N : News h₀ L s.heap news) (T : Top hdV LW mean mg mb h₀) (hk : cs.kind = .function)
    (C : DoesF w mean mg mb f deep vs N0 post) (hs : ∀ p ∈ N0, p ∈ news) (hdp : dp + deep < recursionLimit) (hu : un + 8 * deep < cLine)
    (h : ∀ v h' tk' nw, Fr h₀ L h' m → News h₀ L h' (nw ++ news) → (∀ p ∈ nw, s.heap.get? p.1 = none) → post nw v → Q v { s with heap := h', toks := tk' }) :
    wpAny (model PR w) (ktrTop dp un gd cn cs L a ccd cl outer) (call (.ref f) vs) Q E s :=
  C _ _ _ _ _ _ _ _ _ _ _ _ _ _ _ _ _ B F X (cb_drop N hs) T hk hdp hu fun v h' tk' nw e n z p => h v h' tk' nw ⟨F.ns.keeps e, fun b o q => e b o (F.keep b o q), F.above⟩
    (fun p hp => (List.mem_append.mp hp).elim (n p) fun hp => ⟨e _ _ (N p hp).1, (N p hp).2⟩) z p
inductive FrMark : Prop | mk
theorem freshOf {s₂ g h : Heap} {L' : Addr} {l : List (Addr × Obj)} (G : GSub s₂ g (List.map (·.1) ([] : List (Addr × Obj)))) (N : News g L' h l) : ∀ p ∈ l, s₂.get? p.1 = none := fun p hp => by
  cases e : s₂.get? p.1 with
  | none => rfl
  | some o =>
    have q := G _ _ e (by simp)
    rw [(N p hp).2.2] at q
    cases q
theorem kw_71_rp_a : True := by
  k_with "LeaveK" => (k_dflt ((fail_if_success (with_reducible rename FrMark => z9)); (have z9 := FrMark.mk); (with_reducible rename News _ _ _ _ => N9); (have fr9 := freshOf (by assumption) N9); walk_at "LeaveK"))
  k_with "MyPre" => first | with_reducible assumption | omega | assumption | fail "MyPre"
  k_with "call ref" => (k_dflt (k_here; (with_reducible show wpAny _ _ (call (Value.ref 371) _) _ _ _); (fail_if_success k_inElt); k_dflt (refine' Does.use ?k1 ?k2 ?k3 ?k4 ?k5 ?kK (signs_of_does _ _ _ ?p0 ?p1 ?p2) ?kS ?kd ?ku ?_; (case k1 => k_asm); (case k2 => k_asm); (case k3 => k_asm); (case k4 => k_asm); (case k5 => k_asm); (case kK => first | exact rfl | assumption); (case kS => (repeat' (first | exact List.forall_mem_nil _ | (refine List.forall_mem_cons.mpr ⟨?_, ?_⟩) | k_mem | (intro p9 hp9; repeat' (first | exact hp9 | exact List.mem_append_left _ hp9 | exact List.mem_append_right _ hp9 | refine List.Mem.tail _ ?_ | refine List.mem_append_right _ ?_))))); (case kd => ktr_room); (case ku => ktr_units); (case p0 => walk_at "MyPre"); (case p1 => walk_at "MyPre"); (case p2 => walk_at "MyPre"); k_whole); (intro v9 h9 tk9 nw9 E9 F9 N9 hp9; (obtain ⟨f9, k9, S9, hn9, hv9, hS9⟩ := hp9; subst hn9; subst hv9); (try simp only [List.nil_append, List.cons_append] at N9); (try dsimp only); (try k_sweep); (try clear E9))))
  k_with "call ref" => (k_dflt (k_here; (with_reducible show wpAny _ _ (call (Value.ref 514) _) _ _ _); (fail_if_success k_inElt); k_dflt (refine' Does.use ?k1 ?k2 ?k3 ?k4 ?k5 ?kK (number_picture_does _ _ _ _ _ _ _ ?p0 ?p1 ?p2 ?p3 ?p4 ?p5 ?p6 ?p7 ?p8 ?p9 ?p10) ?kS ?kd ?ku ?_; (case k1 => k_asm); (case k2 => k_asm); (case k3 => k_asm); (case k4 => k_asm); (case k5 => k_asm); (case kK => first | exact rfl | assumption); (case kS => (repeat' (first | exact List.forall_mem_nil _ | (refine List.forall_mem_cons.mpr ⟨?_, ?_⟩) | k_mem | (intro p9 hp9; repeat' (first | exact hp9 | exact List.mem_append_left _ hp9 | exact List.mem_append_right _ hp9 | refine List.Mem.tail _ ?_ | refine List.mem_append_right _ ?_))))); (case kd => ktr_room); (case ku => ktr_units); (case p0 => walk_at "MyPre"); (case p1 => walk_at "MyPre"); (case p2 => walk_at "MyPre"); (case p3 => walk_at "MyPre"); (case p4 => walk_at "MyPre"); (case p5 => walk_at "MyPre"); (case p6 => walk_at "MyPre"); (case p7 => walk_at "MyPre"); (case p8 => walk_at "MyPre"); (case p9 => walk_at "MyPre"); (case p10 => walk_at "MyPre"); k_whole); (intro v9 h9 tk9 nw9 E9 F9 N9 hp9; (obtain ⟨p9, d9, f9, l9, T9, hn9, hv9⟩ := hp9; subst hn9; subst hv9); (try simp only [List.nil_append, List.cons_append] at N9); (try dsimp only); (try k_sweep); (try clear E9))))
  k_with "call builtin:str.join" => (k_dflt (k_here; (with_reducible rename CarriedAll _ _ => C9); (with_reducible rename Heap.IsList _ _ _ => I9); (refine join_same I9 C9 (by decide) (by assumption) (by assumption) ?_); intro _ _; clear C9 I9))
  k_with "StrPack" => (k_dflt ((refine RangePack.intro ?_); (with_reducible rename Fr _ _ _ _ => F9); (with_reducible rename News _ _ _ _ => N9); (refine' ⟨_, _, _, rfl, (by first | decide | exact Nat.le_of_ble_eq_true rfl | (rw [PySem.sizeLine_eq]; omega)), F9, N9, ?g1, ?g2, ?g3⟩); (case g1 => (intro C a v s₂ m₂ E' hC ha hK hn hm hk; exact wpAny_pure ⟨rfl, _, _, rfl, fun _ _ e => e⟩)); (case' g3 => (intro D9 ys9 h9 tk9 F8 N8 hD9 hl9 hP9 hC9)); (case' g2 => (intro C a v s₂ m₂ E' hC ha hK hz hn hm hk; obtain ⟨t9, e9⟩ := hK; subst e9; have hup := upper_of (by assumption) ha; have F8 := frInComp hn hk hC; (try (((with_reducible refine wpAny_leafK ?_); (try (first | ((with_reducible refine markB ?_); intro _) | ((with_reducible refine markD ?_); intro _))))))))))
  k_with "StrComp" => (k_dflt (k_here; (with_reducible apply comp_str (fun _ => true) (fun a => PyData.str a)); (case hh => with_unfolding_all rfl); (case hclos => with_unfolding_all rfl); (case hcell => decide); (case hkind => with_unfolding_all rfl); (case hnames => decide); (case hx => with_unfolding_all rfl); (case hs => intro _; with_unfolding_all rfl); (case' h => (with_reducible refine wpAny_rangePack ?_); walk1; walk1; walk_at "StrPack")))
  trivial
/-- what a picture's text is to be -/
structure RdF (y : Str) (ps : List (Str × Int × Int)) (F₀ : List (Str × Int)) (st : OrS) : Prop where
  len : y.length ≤ 30
  up : (signs y).all (fun a => decide (a.cps.toList < (Str.ofString "a").cps.toList)) = true
  sum : ((signs y).map (·.length)).sum + (signs y).length ≤ 1048576
  join : Txt.join (Str.ofString "") (signs y) = y
  pl : ps.length ≤ 40
  chain : Chain y ps 0
  str : ∀ p ∈ ps, PyData.strOk p.1 = true
  ax : ∀ p ∈ ps, ([Str.ofString "A", Str.ofString "X"].any fun x => x == p.1) = false
  ok : symOk [] ps = true
  fold : ps.foldl symStep [] = F₀
  take : takesF ord0 ps = some st
  nine : 0 < st.nines
  eight : st.nines + st.lead + st.trail ≤ 18
  last : ([Str.ofString ",", Str.ofString "."].any fun x => x == st.last) = false
  size : sizeF F₀ ≤ 9999
  fl : F₀.length ≤ 40
  plain : ∀ q ∈ F₀, (q.2.natAbs ≤ 1000 ∧ q.1.length ≤ 40) ∧ plainC q.1 = true
section
variable {w : World} {mean : ExcName → Option Value} {mg mb : Str → Option Value}
theorem read_picture_does (y : Str) (ps : List (Str × Int × Int)) (F₀ : List (Str × Int)) (st : OrS) (t : Tok) (R : RdF y ps F₀ st) :
    DoesF w mean mg mb 531 50 [.str y t] []
      (fun nw v => ∃ p dp fl lo T, nw = [(p, instObj 320 dp), (dp, dictOf (picEs w T ⟨y, fl, st.nines, if 0 < st.lead then st.lead + st.nines else st.behind - st.trail, st.plain, sizeF F₀⟩) 7), (fl, lo)] ∧ v = .ref p) := by
  refine unBox ?_
  simp (zetaDelta := true) (disch := (k_dflt (
    refine inBox ?_
    obtain ⟨r1, r2, r3, r4, r5, r6, r7, r8, r9, r10, r11, r12, r13, r14, r15, r16, r17⟩ := R
    have r1' : y.length ≤ 40 := by omega
    intro dp un gd cn cs a ccd cl outer A₀ base h₀ L' m s Q E B F X N T hk hd hu hret
    have cE := InElt.start s.heap
    walk_at "MyEnter"
    repeat ((fail_if_success (with_reducible show wpAny _ _ (eval (Expr.ListComp _ _ _ _) _) _ _ _)); (first | k_extra "MyQ" | (k_unfold; (try dsimp only)) | walk1 | (dsimp only; walk1)))
    walk_at "StrComp"
    · k_steps
      rename (_ < _) => hu9
      exact absurd hu9 (by assumption)
    · repeat ((fail_if_success (with_reducible show wpAny _ _ (eval (Expr.ListComp _ _ _ _) _) _ _ _)); (first | k_extra "MyQ" | (k_unfold; (try dsimp only)) | walk1 | (dsimp only; walk1)))
      rename Fr _ _ _ _ => F1
      rename List Sg => S9
      rename (List.map Sg.key _ = _) => hS9
      have hSa : ∀ t ∈ S9, ([Str.ofString "A", Str.ofString "X"].any fun x => x == t.c) = false := fun t ht => r8 t.key (by rw [← hS9]; exact List.mem_map.mpr ⟨t, ht, rfl⟩)
      have hSs : ∀ t ∈ S9, PyData.strOk t.c = true := fun t ht => r7 t.key (by rw [← hS9]; exact List.mem_map.mpr ⟨t, ht, rfl⟩)
      have hSn : S9.length ≤ 40 := by rw [← List.length_map (f := Sg.key), hS9]; exact r5
      rw [← hS9] at r9 r10 r11
      refine LCt.ListComp_T (F₀ := F1) (by with_unfolding_all rfl) (by decide) (by rfl) (by decide) (by rfl) ?_
      repeat ((fail_if_success (with_reducible show LCt.CompSrcT _ _ _ _ _ _ _ _ _ _ _ _ _ _ _)); (first | k_extra "MyQ" | (k_unfold; (try dsimp only)) | walk1 | (dsimp only; walk1)))
      rename Fr _ _ _ _ => F2
      rename News _ _ _ _ => N2
      simp only [List.append_nil] at N2
      refine LCt.CompSrcT.ledger (by rfl) F2 N2 (.head _) (by simp only [List.size_toArray, List.length_map]; rw [PySem.sizeLine_eq]; omega) ?_
      intro g9
      refine restT_none (.inr ⟨_, .head _, rfl, _, rfl⟩) ?fin ?turn _ _
      case turn =>
        clear F2 N2
        intro i v I oI C oC D m₂ h tk E' hp hC hx F3 N3
        obtain ⟨s1, hs1, rfl⟩ : ∃ s1, s1 ∈ S9 ∧ v = Sg.ref s1 := by
          have q : (List.map Sg.ref S9)[i]? = some v := by simpa using hp
          obtain ⟨s1, hs1, e⟩ := List.mem_map.mp (List.mem_of_getElem? q)
          exact ⟨s1, hs1, e.symm⟩
        have hin := sg_in (w := w) hs1
        have N4 := newsIn (newsIn N3 (.tail _ (.tail _ (.tail _ (.tail _ hin.2))))) (.tail _ (.tail _ (.tail _ (.tail _ (.tail _ hin.1)))))
        have hsa1 := hSa s1 hs1
        clear N3
        k_steps
        exact SyEnd.intro (by assumption) (by assumption) (fun p hp => .tail _ (.tail _ (.tail _ hp)))
      case fin =>
        clear F2 N2
        k_steps
        rename (∀ p ∈ _, Heap.get? _ _ = none) => fr9
        exact hret _ _ _ _ (by assumption) (newsTake 3 (by assumption)) (fun p hp => fr9 p (List.mem_of_mem_take (i := 3) hp)) ⟨_, _, _, _, _, rfl, rfl⟩
    ))) only [↓Box.of]
end
end
section
theorem kw_72_eight : True := by
  k_with_none
  k_with "MyEnter" => (refine wpAny_call ?_; k_dflt (refine' code_defG ?k1 ?k2 ?k3 ?k4 ?k5 ?kA ?kF ?kK ?k6 ?k7 ?k8 ?k9 ?kB ?_ ?c2 ?c3 ?c4 ?c5; (case kA => exact rfl); (case kF => exact rfl); (case kK => assumption); (case k1 => k_asm); (case k2 => k_asm); (case k3 => k_asm); (case k4 => k_asm); (case k5 => k_asm); (case k6 => k_is); (case k7 => k_is); (case k8 => ktr_room); (case k9 => first | exact BindsTo.of_eq rfl | exact binds_K (by k_in) rfl (by k_is) rfl rfl rfl); (case c5 => decide); (case kB => exact locs rfl); (case c2 => exact rfl); (case c3 => exact rfl); (case c4 => exact rfl); k_whole; intro g' L' h' FG' F' N' B' X' T' kG'; (try dsimp only); (try k_lift B'); (try k_fold)))
  k_with "binaryOp FloorDiv int int" => (k_here; (with_reducible refine floordiv_int ?d0 ?_ (Or.inl ?d1)); (case d0 => first | with_reducible assumption | decide | omega); (case d1 => first | with_reducible assumption | exact PyProof.noPylong_of_log2 (by decide +kernel)))
  k_with "MyKEnter" => ((fail_if_success k_inElt); (refine' code_defC ?k1 ?k2 ?k3 ?k4 ?k5 ?kA ?kF ?kK ?k6 ?k7 ?k8 ?k9 ?kB ?kD ?_ ?c2 ?c3 ?c4; (case kA => exact rfl); (case kF => exact rfl); (case kK => exact rfl); (case k1 => k_asm); (case k2 => k_asm); (case k3 => k_asm); (case k4 => k_asm); (case k5 => k_asm); (case k6 => k_is); (case k7 => k_is); (case k8 => ktr_room); (case k9 => first | exact BindsTo.of_eq rfl | exact binds_K (by k_in) rfl (by k_is) rfl rfl rfl | fail "k_enter: no rule for these arguments"); (case kB => exact rfl); (case kD => decide +kernel); (case c2 => exact rfl); (case c3 => exact rfl); (case c4 => exact rfl); k_whole; intro g' L' h' tk' cells' FG' F' N' Y' B' X' T' l1; (try k_lt l1); k_cells Y'; (try simp only [List.cons_append, List.nil_append] at N'); (try dsimp only); (try k_lift B'); (try k_fold)))
  k_with "MyKEnter" => ((fail_if_success k_inElt); (refine' code_def ?k1 ?k2 ?k3 ?k4 ?k5 ?kA ?kF ?kK ?k6 ?k7 ?k8 ?k9 ?kB ?_ ?c2 ?c3 ?c4 ?c5; (case kA => exact rfl); (case kF => exact rfl); (case kK => exact rfl); (case k1 => k_asm); (case k2 => k_asm); (case k3 => k_asm); (case k4 => k_asm); (case k5 => k_asm); (case k6 => k_is); (case k7 => k_is); (case k8 => ktr_room); (case k9 => first | exact BindsTo.of_eq rfl | exact binds_K (by k_in) rfl (by k_is) rfl rfl rfl | fail "k_enter: no rule for these arguments"); (case c5 => decide); (case kB => exact locs rfl); (case c2 => exact rfl); (case c3 => exact rfl); (case c4 => exact rfl); k_whole; intro g' L' h' FG' F' N' B' X' T'; (try dsimp only); (try k_lift B'); (try k_fold)))
  k_with "MyPre" => first | with_reducible assumption | omega | with_reducible decide | fail "MyPre"
  k_with "execs cons" => ((fail_if_success k_inElt); first | (with_reducible refine consQ (by with_reducible assumption) (fun Q9 hQ9 => ?_)) | (with_reducible refine consQQ (fun Q8 hQ8 Q9 hQ9 => ?_)))
  k_with "execs cons" => (k_made; walk_at "execs cons")
  k_with "execs cons" => ((with_reducible show wpAny _ _ _ _ _ (Shared.mk _ _ _ (@HAdd.hAdd Nat Nat Nat _ _ _) _)); refine stGen s rfl rfl rfl (fun tk9 => ?_); (try dsimp only))
  k_with "MyQ" => ((fail_if_success (with_reducible show wpAny _ _ _ _ _ _)); (with_reducible first | refine qNext (by with_reducible assumption) ?_ | refine qRet (by with_reducible assumption) ?_ | refine qBrk (by with_reducible assumption) ?_ | refine qCont (by with_reducible assumption) ?_ | refine qGen (by with_reducible assumption) ?_); (try dsimp only))
  k_with "MyAll" => first | k_extra "MyQ" | (k_unfold; (try dsimp only)) | (k_end; kc_close) | walk1 | (dsimp only; walk1) | (leave1; walk_say "STEP leave1"; (try dsimp only)) | fail "no step"
  k_with "eval Name" => (k_here; (with_reducible show wpAny _ _ (eval (Expr.Name _ _) (envOf _ _ _ _ _)) _ _ _); k_dflt (refine' ld ?k1 ?k2 ?_ rfl (by kernel_rfl!) (by kernel_rfl!); (case k1 => k_asm); (case k2 => exact rfl); k_whole))
  k_with "MySize" => ((with_reducible show List.length (List.nil) ≤ _); exact Nat.zero_le _)
  k_with "MyKSub" => (intro p77 hp77; (repeat (first | with_reducible exact hp77 | with_reducible refine List.mem_cons_of_mem _ ?_)); done)
  trivial
section
variable {w : World} {mean : ExcName → Option Value} {mg mb : Str → Option Value}
/-- what read_picture lays of a row's text -/
noncomputable abbrev RowDoes (w : World) (mean : ExcName → Option Value) (mg mb : Str → Option Value) (y : Str) (sc g : Int) (b : Bool) : Prop := ∀ t : Tok, DoesF w mean mg mb 531 50 [.str y t] []
  (fun nw v => ∃ p dp fl lo T, nw = [(p, instObj 320 dp), (dp, dictOf (picEs w T ⟨y, fl, g, sc, b, g⟩) 7), (fl, lo)] ∧ v = .ref p)
theorem rowDoes {y : Str} {ps : List (Str × Int × Int)} {F₀ : List (Str × Int)} {st : OrS} {sc g : Int} {b : Bool} (R : RdF y ps F₀ st) (h1 : st.nines = g) (h2 : (if 0 < st.lead then st.lead + st.nines else st.behind - st.trail) = sc) (h3 : st.plain = b) (h4 : sizeF F₀ = g) : RowDoes w mean mg mb y sc g b := fun t => by
  have z := read_picture_does (w := w) (mean := mean) (mg := mg) (mb := mb) y ps F₀ st t R
  rw [h2, h1, h3, h4] at z
  exact z
theorem okPlain {y c : Str} {i e : Int} (h : SgF y i c) (h1 : (Txt.slice y (some (i + (c.length : Int))) (some (i + (c.length : Int) + 1)) != Str.ofString "(") = true) (h2 : e = i + (c.length : Int)) (h3 : i + (c.length : Int) ≤ 40) : SgOk y c 1 i e := ⟨h, .inl ⟨h1, rfl, h2, h3⟩⟩
theorem okMany {y : Str} {n i e : Int} (h : SgF y i (Str.ofString "9")) (h1 : CtF y (i + 1) n e) (h2 : i + 1 < e) : SgOk y (Str.ofString "9") n i e := ⟨h, .inr ⟨rfl, h1, h2⟩⟩
theorem row0_does : RowDoes w mean mg mb (Str.ofString "S9(4)") 0 4 true :=
  rowDoes (ps := [((Str.ofString "S"), 1, 0), ((Str.ofString "9"), 4, 1)]) (F₀ := [((Str.ofString "S"), 1), ((Str.ofString "9"), 4)]) (st := ⟨2, true, (Str.ofString ""), 0, 0, 4, 0, (Str.ofString "9")⟩) ⟨by decide +kernel, by decide +kernel, by decide +kernel, by decide +kernel, by decide +kernel, ⟨rfl, 1, okPlain ⟨by decide +kernel, by decide +kernel, by decide +kernel, by decide +kernel, by decide +kernel, by decide +kernel⟩ (by decide +kernel) (by decide +kernel) (by decide +kernel), ⟨rfl, 5, okMany ⟨by decide +kernel, by decide +kernel, by decide +kernel, by decide +kernel, by decide +kernel, by decide +kernel⟩ ⟨by decide +kernel, by decide +kernel, by decide +kernel, by decide +kernel, by decide +kernel, by decide +kernel, by decide +kernel, by decide +kernel, by decide +kernel, by decide +kernel, by decide +kernel⟩ (by decide +kernel), (show (5 : Int) = ((Str.ofString "S9(4)").length : Int) by decide +kernel)⟩⟩, by decide +kernel, by decide +kernel, by decide +kernel, by decide +kernel, by kernel_rfl, by decide +kernel, by decide +kernel, by decide +kernel, by decide +kernel, by decide +kernel, by decide +kernel⟩ rfl (by decide) rfl (by decide +kernel)
theorem row1_does : RowDoes w mean mg mb (Str.ofString "9(3)V99") 2 5 false :=
  rowDoes (ps := [((Str.ofString "9"), 3, 0), ((Str.ofString "V"), 1, 4), ((Str.ofString "9"), 1, 5), ((Str.ofString "9"), 1, 6)]) (F₀ := [((Str.ofString "9"), 3), ((Str.ofString "V"), 1), ((Str.ofString "9"), 2)]) (st := ⟨4, false, (Str.ofString "V"), 0, 0, 5, 2, (Str.ofString "9")⟩) ⟨by decide +kernel, by decide +kernel, by decide +kernel, by decide +kernel, by decide +kernel, ⟨rfl, 4, okMany ⟨by decide +kernel, by decide +kernel, by decide +kernel, by decide +kernel, by decide +kernel, by decide +kernel⟩ ⟨by decide +kernel, by decide +kernel, by decide +kernel, by decide +kernel, by decide +kernel, by decide +kernel, by decide +kernel, by decide +kernel, by decide +kernel, by decide +kernel, by decide +kernel⟩ (by decide +kernel), ⟨rfl, 5, okPlain ⟨by decide +kernel, by decide +kernel, by decide +kernel, by decide +kernel, by decide +kernel, by decide +kernel⟩ (by decide +kernel) (by decide +kernel) (by decide +kernel), ⟨rfl, 6, okPlain ⟨by decide +kernel, by decide +kernel, by decide +kernel, by decide +kernel, by decide +kernel, by decide +kernel⟩ (by decide +kernel) (by decide +kernel) (by decide +kernel), ⟨rfl, 7, okPlain ⟨by decide +kernel, by decide +kernel, by decide +kernel, by decide +kernel, by decide +kernel, by decide +kernel⟩ (by decide +kernel) (by decide +kernel) (by decide +kernel), (show (7 : Int) = ((Str.ofString "9(3)V99").length : Int) by decide +kernel)⟩⟩⟩⟩, by decide +kernel, by decide +kernel, by decide +kernel, by decide +kernel, by kernel_rfl, by decide +kernel, by decide +kernel, by decide +kernel, by decide +kernel, by decide +kernel, by decide +kernel⟩ rfl (by decide) rfl (by decide +kernel)
theorem row2_does : RowDoes w mean mg mb (Str.ofString "SV9(3)") 3 3 true :=
  rowDoes (ps := [((Str.ofString "S"), 1, 0), ((Str.ofString "V"), 1, 1), ((Str.ofString "9"), 3, 2)]) (F₀ := [((Str.ofString "S"), 1), ((Str.ofString "V"), 1), ((Str.ofString "9"), 3)]) (st := ⟨3, true, (Str.ofString "V"), 0, 0, 3, 3, (Str.ofString "9")⟩) ⟨by decide +kernel, by decide +kernel, by decide +kernel, by decide +kernel, by decide +kernel, ⟨rfl, 1, okPlain ⟨by decide +kernel, by decide +kernel, by decide +kernel, by decide +kernel, by decide +kernel, by decide +kernel⟩ (by decide +kernel) (by decide +kernel) (by decide +kernel), ⟨rfl, 2, okPlain ⟨by decide +kernel, by decide +kernel, by decide +kernel, by decide +kernel, by decide +kernel, by decide +kernel⟩ (by decide +kernel) (by decide +kernel) (by decide +kernel), ⟨rfl, 6, okMany ⟨by decide +kernel, by decide +kernel, by decide +kernel, by decide +kernel, by decide +kernel, by decide +kernel⟩ ⟨by decide +kernel, by decide +kernel, by decide +kernel, by decide +kernel, by decide +kernel, by decide +kernel, by decide +kernel, by decide +kernel, by decide +kernel, by decide +kernel, by decide +kernel⟩ (by decide +kernel), (show (6 : Int) = ((Str.ofString "SV9(3)").length : Int) by decide +kernel)⟩⟩⟩, by decide +kernel, by decide +kernel, by decide +kernel, by decide +kernel, by kernel_rfl, by decide +kernel, by decide +kernel, by decide +kernel, by decide +kernel, by decide +kernel, by decide +kernel⟩ rfl (by decide) rfl (by decide +kernel)
theorem row3_does : RowDoes w mean mg mb (Str.ofString "S99PP") (-2) 2 true :=
  rowDoes (ps := [((Str.ofString "S"), 1, 0), ((Str.ofString "9"), 1, 1), ((Str.ofString "9"), 1, 2), ((Str.ofString "P"), 1, 3), ((Str.ofString "P"), 1, 4)]) (F₀ := [((Str.ofString "S"), 1), ((Str.ofString "9"), 2), ((Str.ofString "P"), 2)]) (st := ⟨5, true, (Str.ofString ""), 0, 2, 2, 0, (Str.ofString "P")⟩) ⟨by decide +kernel, by decide +kernel, by decide +kernel, by decide +kernel, by decide +kernel, ⟨rfl, 1, okPlain ⟨by decide +kernel, by decide +kernel, by decide +kernel, by decide +kernel, by decide +kernel, by decide +kernel⟩ (by decide +kernel) (by decide +kernel) (by decide +kernel), ⟨rfl, 2, okPlain ⟨by decide +kernel, by decide +kernel, by decide +kernel, by decide +kernel, by decide +kernel, by decide +kernel⟩ (by decide +kernel) (by decide +kernel) (by decide +kernel), ⟨rfl, 3, okPlain ⟨by decide +kernel, by decide +kernel, by decide +kernel, by decide +kernel, by decide +kernel, by decide +kernel⟩ (by decide +kernel) (by decide +kernel) (by decide +kernel), ⟨rfl, 4, okPlain ⟨by decide +kernel, by decide +kernel, by decide +kernel, by decide +kernel, by decide +kernel, by decide +kernel⟩ (by decide +kernel) (by decide +kernel) (by decide +kernel), ⟨rfl, 5, okPlain ⟨by decide +kernel, by decide +kernel, by decide +kernel, by decide +kernel, by decide +kernel, by decide +kernel⟩ (by decide +kernel) (by decide +kernel) (by decide +kernel), (show (5 : Int) = ((Str.ofString "S99PP").length : Int) by decide +kernel)⟩⟩⟩⟩⟩, by decide +kernel, by decide +kernel, by decide +kernel, by decide +kernel, by kernel_rfl, by decide +kernel, by decide +kernel, by decide +kernel, by decide +kernel, by decide +kernel, by decide +kernel⟩ rfl (by decide) rfl (by decide +kernel)
theorem row4_does : RowDoes w mean mg mb (Str.ofString "9PPP") (-3) 1 false :=
  rowDoes (ps := [((Str.ofString "9"), 1, 0), ((Str.ofString "P"), 1, 1), ((Str.ofString "P"), 1, 2), ((Str.ofString "P"), 1, 3)]) (F₀ := [((Str.ofString "9"), 1), ((Str.ofString "P"), 3)]) (st := ⟨4, false, (Str.ofString ""), 0, 3, 1, 0, (Str.ofString "P")⟩) ⟨by decide +kernel, by decide +kernel, by decide +kernel, by decide +kernel, by decide +kernel, ⟨rfl, 1, okPlain ⟨by decide +kernel, by decide +kernel, by decide +kernel, by decide +kernel, by decide +kernel, by decide +kernel⟩ (by decide +kernel) (by decide +kernel) (by decide +kernel), ⟨rfl, 2, okPlain ⟨by decide +kernel, by decide +kernel, by decide +kernel, by decide +kernel, by decide +kernel, by decide +kernel⟩ (by decide +kernel) (by decide +kernel) (by decide +kernel), ⟨rfl, 3, okPlain ⟨by decide +kernel, by decide +kernel, by decide +kernel, by decide +kernel, by decide +kernel, by decide +kernel⟩ (by decide +kernel) (by decide +kernel) (by decide +kernel), ⟨rfl, 4, okPlain ⟨by decide +kernel, by decide +kernel, by decide +kernel, by decide +kernel, by decide +kernel, by decide +kernel⟩ (by decide +kernel) (by decide +kernel) (by decide +kernel), (show (4 : Int) = ((Str.ofString "9PPP").length : Int) by decide +kernel)⟩⟩⟩⟩, by decide +kernel, by decide +kernel, by decide +kernel, by decide +kernel, by kernel_rfl, by decide +kernel, by decide +kernel, by decide +kernel, by decide +kernel, by decide +kernel, by decide +kernel⟩ rfl (by decide) rfl (by decide +kernel)
theorem row5_does : RowDoes w mean mg mb (Str.ofString "SPP99") 4 2 true :=
  rowDoes (ps := [((Str.ofString "S"), 1, 0), ((Str.ofString "P"), 1, 1), ((Str.ofString "P"), 1, 2), ((Str.ofString "9"), 1, 3), ((Str.ofString "9"), 1, 4)]) (F₀ := [((Str.ofString "S"), 1), ((Str.ofString "P"), 2), ((Str.ofString "9"), 2)]) (st := ⟨5, true, (Str.ofString ""), 2, 0, 2, 0, (Str.ofString "9")⟩) ⟨by decide +kernel, by decide +kernel, by decide +kernel, by decide +kernel, by decide +kernel, ⟨rfl, 1, okPlain ⟨by decide +kernel, by decide +kernel, by decide +kernel, by decide +kernel, by decide +kernel, by decide +kernel⟩ (by decide +kernel) (by decide +kernel) (by decide +kernel), ⟨rfl, 2, okPlain ⟨by decide +kernel, by decide +kernel, by decide +kernel, by decide +kernel, by decide +kernel, by decide +kernel⟩ (by decide +kernel) (by decide +kernel) (by decide +kernel), ⟨rfl, 3, okPlain ⟨by decide +kernel, by decide +kernel, by decide +kernel, by decide +kernel, by decide +kernel, by decide +kernel⟩ (by decide +kernel) (by decide +kernel) (by decide +kernel), ⟨rfl, 4, okPlain ⟨by decide +kernel, by decide +kernel, by decide +kernel, by decide +kernel, by decide +kernel, by decide +kernel⟩ (by decide +kernel) (by decide +kernel) (by decide +kernel), ⟨rfl, 5, okPlain ⟨by decide +kernel, by decide +kernel, by decide +kernel, by decide +kernel, by decide +kernel, by decide +kernel⟩ (by decide +kernel) (by decide +kernel) (by decide +kernel), (show (5 : Int) = ((Str.ofString "SPP99").length : Int) by decide +kernel)⟩⟩⟩⟩⟩, by decide +kernel, by decide +kernel, by decide +kernel, by decide +kernel, by kernel_rfl, by decide +kernel, by decide +kernel, by decide +kernel, by decide +kernel, by decide +kernel, by decide +kernel⟩ rfl (by decide) rfl (by decide +kernel)
theorem row6_does : RowDoes w mean mg mb (Str.ofString "S9(18)") 0 18 true :=
  rowDoes (ps := [((Str.ofString "S"), 1, 0), ((Str.ofString "9"), 18, 1)]) (F₀ := [((Str.ofString "S"), 1), ((Str.ofString "9"), 18)]) (st := ⟨2, true, (Str.ofString ""), 0, 0, 18, 0, (Str.ofString "9")⟩) ⟨by decide +kernel, by decide +kernel, by decide +kernel, by decide +kernel, by decide +kernel, ⟨rfl, 1, okPlain ⟨by decide +kernel, by decide +kernel, by decide +kernel, by decide +kernel, by decide +kernel, by decide +kernel⟩ (by decide +kernel) (by decide +kernel) (by decide +kernel), ⟨rfl, 6, okMany ⟨by decide +kernel, by decide +kernel, by decide +kernel, by decide +kernel, by decide +kernel, by decide +kernel⟩ ⟨by decide +kernel, by decide +kernel, by decide +kernel, by decide +kernel, by decide +kernel, by decide +kernel, by decide +kernel, by decide +kernel, by decide +kernel, by decide +kernel, by decide +kernel⟩ (by decide +kernel), (show (6 : Int) = ((Str.ofString "S9(18)").length : Int) by decide +kernel)⟩⟩, by decide +kernel, by decide +kernel, by decide +kernel, by decide +kernel, by kernel_rfl, by decide +kernel, by decide +kernel, by decide +kernel, by decide +kernel, by decide +kernel, by decide +kernel⟩ rfl (by decide) rfl (by decide +kernel)
theorem row7_does : RowDoes w mean mg mb (Str.ofString "9V9(17)") 17 18 false :=
  rowDoes (ps := [((Str.ofString "9"), 1, 0), ((Str.ofString "V"), 1, 1), ((Str.ofString "9"), 17, 2)]) (F₀ := [((Str.ofString "9"), 1), ((Str.ofString "V"), 1), ((Str.ofString "9"), 17)]) (st := ⟨3, false, (Str.ofString "V"), 0, 0, 18, 17, (Str.ofString "9")⟩) ⟨by decide +kernel, by decide +kernel, by decide +kernel, by decide +kernel, by decide +kernel, ⟨rfl, 1, okPlain ⟨by decide +kernel, by decide +kernel, by decide +kernel, by decide +kernel, by decide +kernel, by decide +kernel⟩ (by decide +kernel) (by decide +kernel) (by decide +kernel), ⟨rfl, 2, okPlain ⟨by decide +kernel, by decide +kernel, by decide +kernel, by decide +kernel, by decide +kernel, by decide +kernel⟩ (by decide +kernel) (by decide +kernel) (by decide +kernel), ⟨rfl, 7, okMany ⟨by decide +kernel, by decide +kernel, by decide +kernel, by decide +kernel, by decide +kernel, by decide +kernel⟩ ⟨by decide +kernel, by decide +kernel, by decide +kernel, by decide +kernel, by decide +kernel, by decide +kernel, by decide +kernel, by decide +kernel, by decide +kernel, by decide +kernel, by decide +kernel⟩ (by decide +kernel), (show (7 : Int) = ((Str.ofString "9V9(17)").length : Int) by decide +kernel)⟩⟩⟩, by decide +kernel, by decide +kernel, by decide +kernel, by decide +kernel, by kernel_rfl, by decide +kernel, by decide +kernel, by decide +kernel, by decide +kernel, by decide +kernel, by decide +kernel⟩ rfl (by decide) rfl (by decide +kernel)
end
end
section
theorem kw_73_shp : True := by
  k_with_none
  k_with "MyEnter" => (refine wpAny_call ?_; k_dflt (refine' code_defG ?k1 ?k2 ?k3 ?k4 ?k5 ?kA ?kF ?kK ?k6 ?k7 ?k8 ?k9 ?kB ?_ ?c2 ?c3 ?c4 ?c5; (case kA => exact rfl); (case kF => exact rfl); (case kK => assumption); (case k1 => k_asm); (case k2 => k_asm); (case k3 => k_asm); (case k4 => k_asm); (case k5 => k_asm); (case k6 => k_is); (case k7 => k_is); (case k8 => ktr_room); (case k9 => first | exact BindsTo.of_eq rfl | exact binds_K (by k_in) rfl (by k_is) rfl rfl rfl); (case c5 => decide); (case kB => exact locs rfl); (case c2 => exact rfl); (case c3 => exact rfl); (case c4 => exact rfl); k_whole; intro g' L' h' FG' F' N' B' X' T' kG'; (try dsimp only); (try k_lift B'); (try k_fold)))
  k_with "binaryOp FloorDiv int int" => (k_here; (with_reducible refine floordiv_int ?d0 ?_ (Or.inl ?d1)); (case d0 => first | with_reducible assumption | decide | omega); (case d1 => first | with_reducible assumption | exact PyProof.noPylong_of_log2 (by decide +kernel)))
  k_with "MyKEnter" => ((fail_if_success k_inElt); (refine' code_defC ?k1 ?k2 ?k3 ?k4 ?k5 ?kA ?kF ?kK ?k6 ?k7 ?k8 ?k9 ?kB ?kD ?_ ?c2 ?c3 ?c4; (case kA => exact rfl); (case kF => exact rfl); (case kK => exact rfl); (case k1 => k_asm); (case k2 => k_asm); (case k3 => k_asm); (case k4 => k_asm); (case k5 => k_asm); (case k6 => k_is); (case k7 => k_is); (case k8 => ktr_room); (case k9 => first | exact BindsTo.of_eq rfl | exact binds_K (by k_in) rfl (by k_is) rfl rfl rfl | fail "k_enter: no rule for these arguments"); (case kB => exact rfl); (case kD => decide +kernel); (case c2 => exact rfl); (case c3 => exact rfl); (case c4 => exact rfl); k_whole; intro g' L' h' tk' cells' FG' F' N' Y' B' X' T' l1; (try k_lt l1); k_cells Y'; (try simp only [List.cons_append, List.nil_append] at N'); (try dsimp only); (try k_lift B'); (try k_fold)))
  k_with "MyKEnter" => ((fail_if_success k_inElt); (refine' code_def ?k1 ?k2 ?k3 ?k4 ?k5 ?kA ?kF ?kK ?k6 ?k7 ?k8 ?k9 ?kB ?_ ?c2 ?c3 ?c4 ?c5; (case kA => exact rfl); (case kF => exact rfl); (case kK => exact rfl); (case k1 => k_asm); (case k2 => k_asm); (case k3 => k_asm); (case k4 => k_asm); (case k5 => k_asm); (case k6 => k_is); (case k7 => k_is); (case k8 => ktr_room); (case k9 => first | exact BindsTo.of_eq rfl | exact binds_K (by k_in) rfl (by k_is) rfl rfl rfl | fail "k_enter: no rule for these arguments"); (case c5 => decide); (case kB => exact locs rfl); (case c2 => exact rfl); (case c3 => exact rfl); (case c4 => exact rfl); k_whole; intro g' L' h' FG' F' N' B' X' T'; (try dsimp only); (try k_lift B'); (try k_fold)))
  k_with "MyPre" => first | with_reducible assumption | omega | with_reducible decide | fail "MyPre"
  k_with "execs cons" => ((fail_if_success k_inElt); first | (with_reducible refine consQ (by with_reducible assumption) (fun Q9 hQ9 => ?_)) | (with_reducible refine consQQ (fun Q8 hQ8 Q9 hQ9 => ?_)))
  k_with "execs cons" => (k_made; walk_at "execs cons")
  k_with "execs cons" => ((with_reducible show wpAny _ _ _ _ _ (Shared.mk _ _ _ (@HAdd.hAdd Nat Nat Nat _ _ _) _)); refine stGen s rfl rfl rfl (fun tk9 => ?_); (try dsimp only))
  k_with "MyQ" => ((fail_if_success (with_reducible show wpAny _ _ _ _ _ _)); (with_reducible first | refine qNext (by with_reducible assumption) ?_ | refine qRet (by with_reducible assumption) ?_ | refine qBrk (by with_reducible assumption) ?_ | refine qCont (by with_reducible assumption) ?_ | refine qGen (by with_reducible assumption) ?_); (try dsimp only))
  k_with "MyAll" => first | k_extra "MyQ" | (k_unfold; (try dsimp only)) | (k_end; kc_close) | walk1 | (dsimp only; walk1) | (leave1; walk_say "STEP leave1"; (try dsimp only)) | fail "no step"
  k_with "eval Name" => (k_here; (with_reducible show wpAny _ _ (eval (Expr.Name _ _) (envOf _ _ _ _ _)) _ _ _); k_dflt (refine' ld ?k1 ?k2 ?_ rfl (by kernel_rfl!) (by kernel_rfl!); (case k1 => k_asm); (case k2 => exact rfl); k_whole))
  k_with "MySize" => ((with_reducible show List.length (List.nil) ≤ _); exact Nat.zero_le _)
  k_with "MyKSub" => (intro p77 hp77; (repeat (first | with_reducible exact hp77 | with_reducible refine List.mem_cons_of_mem _ ?_)); done)
  trivial
theorem kw_73_shp_a : True := by
  k_with "MyEnterC" => (
  k_dflt (refine' code_defG ?k1 ?k2 ?k3 ?k4 ?k5 ?kA ?kF ?kK ?k6 ?k7 ?k8 ?k9 ?kB ?_ ?c2 ?c3 ?c4 ?c5; (case kA => exact rfl); (case kF => exact rfl); (case kK => assumption); (case k1 => k_asm); (case k2 => k_asm); (case k3 => k_asm); (case k4 => k_asm); (case k5 => k_asm); (case k6 => k_is); (case k7 => k_is); (case k8 => ktr_room); (case k9 => first | exact BindsTo.of_eq rfl | exact binds_K (by k_in) rfl (by k_is) rfl rfl rfl); (case c5 => decide); (case kB => exact locs rfl); (case c2 => exact rfl); (case c3 => exact rfl); (case c4 => exact rfl); k_whole; intro g' L' h' FG' F' N' B' X' T' kG'; (try dsimp only); (try k_lift B'); (try k_fold)))
  k_with "MyNew" => (k_dflt (refine' clsE ?k1 ?k2 ?k3 ?k4 ?k5 ?k6 ?_; (case k1 => k_asm); (case k2 => k_asm); (case k3 => k_asm); (case k4 => k_is); (case k5 => k_is); (case k6 => k_is); k_whole); intro x' d' h' W' F' N' l1 l2; (try k_lt l1); (try k_lt2 l2))
  k_with "LeaveK" => (k_dflt ((fail_if_success k_inElt); (with_reducible rename NewAt _ _ _ _ => W9); (have cE := eltInit W9 (by assumption) (by assumption) (by k_asm) (by k_asm) (by first | exact List.forall_mem_nil _ | k_sub)); clear W9; walk_at "LeaveK"))
  trivial
section
variable {w : World} {mean : ExcName → Option Value} {mg mb : Str → Option Value}
theorem shape_new_does (p dp fl : Addr) (TP : PcT) (y us : Str) (g sc z sz : Int) (b : Bool) (t t1 t2 t3 : Tok) :
    Does w mean mg mb 133 4 [.str (Str.ofString "numeric") t, .int sz t1, .ref p, .str us t2, .str (Str.ofString "trailing") t3, .bool false, .bool false, .bool false] [(p, instObj 320 dp), (dp, dictOf (picEs w TP ⟨y, fl, g, sc, b, z⟩) 7)]
      (fun nw v => ∃ x d T, nw = [(x, instObj 133 d), (d, dictOf (shapeEs w T us ⟨sz, p, g, sc, b⟩) 11)] ∧ v = .ref x) := by
  refine unBox ?_
  simp (zetaDelta := true) (disch := (k_dflt (
    refine inBox ?_
    intro dp' un gd cn cs a ccd cl outer A₀ base h₀ L m s Q E B F X N T hk hd hu hret
    walk_at "MyNew"
    walk_at "MyEnterC"
    k_steps
    rename News _ _ _ _ => NE
    have N5 := cb_drop (news := [_, _]) NE (List.forall_mem_cons.mpr ⟨.tail _ (.head _), List.forall_mem_cons.mpr ⟨.tail _ (.tail _ (.head _)), List.forall_mem_nil _⟩⟩)
    refine' hret _ _ _ _ (by assumption) N5 ⟨_, _, ⟨_, _, _, _, _, _, _, _, _, _, _, _, _, _, _, _, _⟩, ?_, rfl⟩
    all_goals (try (dsimp only [shapeEs]; exact rfl))
    ))) only [↓Box.of]
theorem shFin {w : World} {x d p : Addr} {T : ShT} {us : Str} {sz sz' g sc : Int} {b : Bool} (e : sz' = sz) :
    ∃ x' d' T', [(x, instObj 133 d), (d, dictOf (shapeEs w T us ⟨sz', p, g, sc, b⟩) 11)] = [(x', instObj 133 d'), (d', dictOf (shapeEs w T' us ⟨sz, p, g, sc, b⟩) 11)] ∧ Value.ref x = .ref x' := ⟨x, d, T, by rw [e], rfl⟩
theorem check_usage_does (U : Us) (p dp fl : Addr) (TP : PcT) (y : Str) (g sc : Int) (b : Bool) (t : Tok) :
    Does w mean mg mb 172 4 [.ref p, .str U.str t] [(p, instObj 320 dp), (dp, dictOf (picEs w TP ⟨y, fl, g, sc, b, g⟩) 7)] (fun nw v => nw = [] ∧ v = .none) := by
  refine unBox ?_
  simp (zetaDelta := true) (disch := (k_dflt (
    refine inBox ?_
    cases U
    all_goals dsimp only [Us.str]
    all_goals intro dp' un gd cn cs a ccd cl outer A₀ base h₀ L m s Q E B F X N T hk hd hu hret
    all_goals have cE := InElt.start s.heap
    all_goals walk_at "MyEnter"
    all_goals k_steps
    all_goals exact hret _ _ _ _ (by assumption) (newsTake 0 (by assumption)) ⟨rfl, rfl⟩
    ))) only [↓Box.of]
theorem check_sign_does (p : Addr) (us : Str) (t t1 : Tok) : Does w mean mg mb 179 4 [.ref p, .str us t, .str (Str.ofString "trailing") t1, .bool false] [] (fun nw v => nw = [] ∧ v = .none) := by
  refine unBox ?_
  simp (zetaDelta := true) (disch := (k_dflt (
    refine inBox ?_
    intro dp' un gd cn cs a ccd cl outer A₀ base h₀ L m s Q E B F X N T hk hd hu hret
    have cE := InElt.start s.heap
    walk_at "MyEnter"
    k_steps
    exact hret _ _ _ _ (by assumption) (newsTake 0 (by assumption)) ⟨rfl, rfl⟩
    ))) only [↓Box.of]
theorem check_clauses_does (p : Addr) : Does w mean mg mb 184 4 [.ref p, .bool false, .bool false] [] (fun nw v => nw = [] ∧ v = .none) := by
  refine unBox ?_
  simp (zetaDelta := true) (disch := (k_dflt (
    refine inBox ?_
    intro dp' un gd cn cs a ccd cl outer A₀ base h₀ L m s Q E B F X N T hk hd hu hret
    have cE := InElt.start s.heap
    walk_at "MyEnter"
    k_steps
    exact hret _ _ _ _ (by assumption) (newsTake 0 (by assumption)) ⟨rfl, rfl⟩
    ))) only [↓Box.of]
theorem binary_width_does (g : Int) (t : Tok) (h1 : 1 ≤ g) (h2 : g ≤ 18) : Does w mean mg mb 151 2 [.int g t] [] (fun nw v => nw = [] ∧ ∃ t', v = .int (Us.size .binary g) t') := by
  refine unBox ?_
  simp (zetaDelta := true) (disch := (k_dflt (
    refine inBox ?_
    intro dp' un gd cn cs a ccd cl outer A₀ base h₀ L m s Q E B F X N T hk hd hu hret
    have cE := InElt.start s.heap
    walk_at "MyEnter"
    k_steps
    all_goals refine hret _ _ _ _ (by assumption) (newsTake 0 (by assumption)) ⟨rfl, _, congrArg (Value.int · _) ?_⟩
    all_goals (unfold Us.size; dsimp only; repeat (first | rfl | rw [if_pos (by assumption)] | rw [if_neg (by assumption)]))
    ))) only [↓Box.of]
theorem kw_73_shp_b : True := by
  k_with "call ref" => (k_dflt (k_here; (with_reducible show wpAny _ _ (call (Value.ref 151) _) _ _ _); (fail_if_success k_inElt); k_dflt (refine' Does.use ?k1 ?k2 ?k3 ?k4 ?k5 ?kK (binary_width_does _ _ ?p0 ?p1) ?kS ?kd ?ku ?_; (case k1 => k_asm); (case k2 => k_asm); (case k3 => k_asm); (case k4 => k_asm); (case k5 => k_asm); (case kK => first | exact rfl | assumption); (case kS => (repeat' (first | exact List.forall_mem_nil _ | (refine List.forall_mem_cons.mpr ⟨?_, ?_⟩) | k_mem | (intro p9 hp9; repeat' (first | exact hp9 | exact List.mem_append_left _ hp9 | exact List.mem_append_right _ hp9 | refine List.Mem.tail _ ?_ | refine List.mem_append_right _ ?_))))); (case kd => ktr_room); (case ku => ktr_units); (case p0 => walk_at "MyPre"); (case p1 => walk_at "MyPre"); k_whole); (intro v9 h9 tk9 nw9 E9 F9 N9 hp9; (obtain ⟨hn9, t9, hv9⟩ := hp9; subst hn9; subst hv9); (try simp only [List.nil_append, List.cons_append] at N9); (try dsimp only); (try k_sweep); (try clear E9))))
  trivial
theorem size_for_does (U : Us) (p dp fl : Addr) (TP : PcT) (y : Str) (g sc : Int) (b : Bool) (t : Tok) (h1 : 1 ≤ g) (h2 : g ≤ 18) :
    Does w mean mg mb 165 4 [.ref p, .str U.str t, .bool false] [(p, instObj 320 dp), (dp, dictOf (picEs w TP ⟨y, fl, g, sc, b, g⟩) 7)] (fun nw v => nw = [] ∧ ∃ t', v = .int (Us.size U g) t') := by
  refine unBox ?_
  simp (zetaDelta := true) (disch := (k_dflt (
    refine inBox ?_
    cases U
    all_goals dsimp only [Us.str]
    all_goals intro dp' un gd cn cs a ccd cl outer A₀ base h₀ L m s Q E B F X N T hk hd hu hret
    all_goals have cE := InElt.start s.heap
    all_goals walk_at "MyEnter"
    all_goals k_steps
    all_goals refine hret _ _ _ _ (by assumption) (newsTake 0 (by assumption)) ⟨rfl, _, congrArg (Value.int · _) ?_⟩
    · unfold Us.size; dsimp only; rw [Int.fdiv_eq_ediv_of_nonneg _ (by decide)]
    · unfold Us.size; dsimp only; omega
    · rfl
    ))) only [↓Box.of]
theorem check_usage_d (p dp fl : Addr) (TP : PcT) (y : Str) (g sc : Int) (b : Bool) (t : Tok) : Does w mean mg mb 172 4 [.ref p, .str (Str.ofString "display") t] [(p, instObj 320 dp), (dp, dictOf (picEs w TP ⟨y, fl, g, sc, b, g⟩) 7)] (fun nw v => nw = [] ∧ v = .none) := check_usage_does .display p dp fl TP y g sc b t
theorem size_for_d (p dp fl : Addr) (TP : PcT) (y : Str) (g sc : Int) (b : Bool) (t : Tok) (h1 : 1 ≤ g) (h2 : g ≤ 18) : Does w mean mg mb 165 4 [.ref p, .str (Str.ofString "display") t, .bool false] [(p, instObj 320 dp), (dp, dictOf (picEs w TP ⟨y, fl, g, sc, b, g⟩) 7)] (fun nw v => nw = [] ∧ ∃ t', v = .int (Us.size .display g) t') := size_for_does .display p dp fl TP y g sc b t h1 h2
theorem kw_73_shp_c : True := by
  k_with "MyPre" => first | with_reducible assumption | omega | assumption | fail "MyPre"
  k_with "call ref" => (k_dflt (k_here; (with_reducible show wpAny _ _ (call (Value.ref 133) _) _ _ _); (fail_if_success k_inElt); k_dflt (refine' Does.use ?k1 ?k2 ?k3 ?k4 ?k5 ?kK (shape_new_does _ _ _ _ _ _ _ _ _ _ _ _ _ _ _) ?kS ?kd ?ku ?_; (case k1 => k_asm); (case k2 => k_asm); (case k3 => k_asm); (case k4 => k_asm); (case k5 => k_asm); (case kK => first | exact rfl | assumption); (case kS => (repeat' (first | exact List.forall_mem_nil _ | (refine List.forall_mem_cons.mpr ⟨?_, ?_⟩) | k_mem | (intro p9 hp9; repeat' (first | exact hp9 | exact List.mem_append_left _ hp9 | exact List.mem_append_right _ hp9 | refine List.Mem.tail _ ?_ | refine List.mem_append_right _ ?_))))); (case kd => ktr_room); (case ku => ktr_units); k_whole); (intro v9 h9 tk9 nw9 E9 F9 N9 hp9; (obtain ⟨x9, d9, T9, hn9, hv9⟩ := hp9; subst hn9; subst hv9); (try simp only [List.nil_append, List.cons_append] at N9); (try dsimp only); (try k_sweep); (try clear E9))))
  k_with "call ref" => (k_dflt (k_here; (with_reducible show wpAny _ _ (call (Value.ref 172) _) _ _ _); (fail_if_success k_inElt); k_dflt (refine' Does.use ?k1 ?k2 ?k3 ?k4 ?k5 ?kK (check_usage_does _ _ _ _ _ _ _ _ _ _) ?kS ?kd ?ku ?_; (case k1 => k_asm); (case k2 => k_asm); (case k3 => k_asm); (case k4 => k_asm); (case k5 => k_asm); (case kK => first | exact rfl | assumption); (case kS => (repeat' (first | exact List.forall_mem_nil _ | (refine List.forall_mem_cons.mpr ⟨?_, ?_⟩) | k_mem | (intro p9 hp9; repeat' (first | exact hp9 | exact List.mem_append_left _ hp9 | exact List.mem_append_right _ hp9 | refine List.Mem.tail _ ?_ | refine List.mem_append_right _ ?_))))); (case kd => ktr_room); (case ku => ktr_units); k_whole); (intro v9 h9 tk9 nw9 E9 F9 N9 hp9; (obtain ⟨hn9, hv9⟩ := hp9; subst hn9; subst hv9); (try simp only [List.nil_append, List.cons_append] at N9); (try dsimp only); (try k_sweep); (try clear E9))))
  k_with "call ref" => (k_dflt (k_here; (with_reducible show wpAny _ _ (call (Value.ref 172) _) _ _ _); (fail_if_success k_inElt); k_dflt (refine' Does.use ?k1 ?k2 ?k3 ?k4 ?k5 ?kK (check_usage_d _ _ _ _ _ _ _ _ _) ?kS ?kd ?ku ?_; (case k1 => k_asm); (case k2 => k_asm); (case k3 => k_asm); (case k4 => k_asm); (case k5 => k_asm); (case kK => first | exact rfl | assumption); (case kS => (repeat' (first | exact List.forall_mem_nil _ | (refine List.forall_mem_cons.mpr ⟨?_, ?_⟩) | k_mem | (intro p9 hp9; repeat' (first | exact hp9 | exact List.mem_append_left _ hp9 | exact List.mem_append_right _ hp9 | refine List.Mem.tail _ ?_ | refine List.mem_append_right _ ?_))))); (case kd => ktr_room); (case ku => ktr_units); k_whole); (intro v9 h9 tk9 nw9 E9 F9 N9 hp9; (obtain ⟨hn9, hv9⟩ := hp9; subst hn9; subst hv9); (try simp only [List.nil_append, List.cons_append] at N9); (try dsimp only); (try k_sweep); (try clear E9))))
  k_with "call ref" => (k_dflt (k_here; (with_reducible show wpAny _ _ (call (Value.ref 179) _) _ _ _); (fail_if_success k_inElt); k_dflt (refine' Does.use ?k1 ?k2 ?k3 ?k4 ?k5 ?kK (check_sign_does _ _ _ _) ?kS ?kd ?ku ?_; (case k1 => k_asm); (case k2 => k_asm); (case k3 => k_asm); (case k4 => k_asm); (case k5 => k_asm); (case kK => first | exact rfl | assumption); (case kS => (repeat' (first | exact List.forall_mem_nil _ | (refine List.forall_mem_cons.mpr ⟨?_, ?_⟩) | k_mem | (intro p9 hp9; repeat' (first | exact hp9 | exact List.mem_append_left _ hp9 | exact List.mem_append_right _ hp9 | refine List.Mem.tail _ ?_ | refine List.mem_append_right _ ?_))))); (case kd => ktr_room); (case ku => ktr_units); k_whole); (intro v9 h9 tk9 nw9 E9 F9 N9 hp9; (obtain ⟨hn9, hv9⟩ := hp9; subst hn9; subst hv9); (try simp only [List.nil_append, List.cons_append] at N9); (try dsimp only); (try k_sweep); (try clear E9))))
  k_with "call ref" => (k_dflt (k_here; (with_reducible show wpAny _ _ (call (Value.ref 184) _) _ _ _); (fail_if_success k_inElt); k_dflt (refine' Does.use ?k1 ?k2 ?k3 ?k4 ?k5 ?kK (check_clauses_does _) ?kS ?kd ?ku ?_; (case k1 => k_asm); (case k2 => k_asm); (case k3 => k_asm); (case k4 => k_asm); (case k5 => k_asm); (case kK => first | exact rfl | assumption); (case kS => (repeat' (first | exact List.forall_mem_nil _ | (refine List.forall_mem_cons.mpr ⟨?_, ?_⟩) | k_mem | (intro p9 hp9; repeat' (first | exact hp9 | exact List.mem_append_left _ hp9 | exact List.mem_append_right _ hp9 | refine List.Mem.tail _ ?_ | refine List.mem_append_right _ ?_))))); (case kd => ktr_room); (case ku => ktr_units); k_whole); (intro v9 h9 tk9 nw9 E9 F9 N9 hp9; (obtain ⟨hn9, hv9⟩ := hp9; subst hn9; subst hv9); (try simp only [List.nil_append, List.cons_append] at N9); (try dsimp only); (try k_sweep); (try clear E9))))
  k_with "call ref" => (k_dflt (k_here; (with_reducible show wpAny _ _ (call (Value.ref 165) _) _ _ _); (fail_if_success k_inElt); k_dflt (refine' Does.use ?k1 ?k2 ?k3 ?k4 ?k5 ?kK (size_for_does _ _ _ _ _ _ _ _ _ _ ?p0 ?p1) ?kS ?kd ?ku ?_; (case k1 => k_asm); (case k2 => k_asm); (case k3 => k_asm); (case k4 => k_asm); (case k5 => k_asm); (case kK => first | exact rfl | assumption); (case kS => (repeat' (first | exact List.forall_mem_nil _ | (refine List.forall_mem_cons.mpr ⟨?_, ?_⟩) | k_mem | (intro p9 hp9; repeat' (first | exact hp9 | exact List.mem_append_left _ hp9 | exact List.mem_append_right _ hp9 | refine List.Mem.tail _ ?_ | refine List.mem_append_right _ ?_))))); (case kd => ktr_room); (case ku => ktr_units); (case p0 => walk_at "MyPre"); (case p1 => walk_at "MyPre"); k_whole); (intro v9 h9 tk9 nw9 E9 F9 N9 hp9; (obtain ⟨hn9, t9, hv9⟩ := hp9; subst hn9; subst hv9); (try simp only [List.nil_append, List.cons_append] at N9); (try dsimp only); (try k_sweep); (try clear E9))))
  k_with "call ref" => (k_dflt (k_here; (with_reducible show wpAny _ _ (call (Value.ref 165) _) _ _ _); (fail_if_success k_inElt); k_dflt (refine' Does.use ?k1 ?k2 ?k3 ?k4 ?k5 ?kK (size_for_d _ _ _ _ _ _ _ _ _ ?p0 ?p1) ?kS ?kd ?ku ?_; (case k1 => k_asm); (case k2 => k_asm); (case k3 => k_asm); (case k4 => k_asm); (case k5 => k_asm); (case kK => first | exact rfl | assumption); (case kS => (repeat' (first | exact List.forall_mem_nil _ | (refine List.forall_mem_cons.mpr ⟨?_, ?_⟩) | k_mem | (intro p9 hp9; repeat' (first | exact hp9 | exact List.mem_append_left _ hp9 | exact List.mem_append_right _ hp9 | refine List.Mem.tail _ ?_ | refine List.mem_append_right _ ?_))))); (case kd => ktr_room); (case ku => ktr_units); (case p0 => walk_at "MyPre"); (case p1 => walk_at "MyPre"); k_whole); (intro v9 h9 tk9 nw9 E9 F9 N9 hp9; (obtain ⟨hn9, t9, hv9⟩ := hp9; subst hn9; subst hv9); (try simp only [List.nil_append, List.cons_append] at N9); (try dsimp only); (try k_sweep); (try clear E9))))
  trivial
theorem shape_of_us (U : Us) (p dp fl : Addr) (TP : PcT) (y : Str) (g sc : Int) (b : Bool) (t : Tok) (h1 : 1 ≤ g) (h2 : g ≤ 18) :
    Does w mean mg mb 192 20 [.ref p, .str U.str t] [(p, instObj 320 dp), (dp, dictOf (picEs w TP ⟨y, fl, g, sc, b, g⟩) 7)]
      (fun nw v => ∃ x d T, nw = [(x, instObj 133 d), (d, dictOf (shapeEs w T U.str ⟨Us.size U g, p, g, sc, b⟩) 11)] ∧ v = .ref x) := by
  refine unBox ?_
  simp (zetaDelta := true) (disch := (k_dflt (
    refine inBox ?_
    intro dp' un gd cn cs a ccd cl outer A₀ base h₀ L m s Q E B F X N T hk hd hu hret
    have cE := InElt.start s.heap
    walk_at "MyEnter"
    k_steps
    rename News _ _ _ _ => NE
    have N5 := cb_drop (news := [_, _]) NE (List.forall_mem_cons.mpr ⟨.head _, List.forall_mem_cons.mpr ⟨.tail _ (.head _), List.forall_mem_nil _⟩⟩)
    exact hret _ _ _ _ (by assumption) N5 (shFin rfl)
    ))) only [↓Box.of]
theorem shape_of_one (p dp fl : Addr) (TP : PcT) (y : Str) (g sc : Int) (b : Bool) (h1 : 1 ≤ g) (h2 : g ≤ 18) :
    Does w mean mg mb 192 20 [.ref p] [(p, instObj 320 dp), (dp, dictOf (picEs w TP ⟨y, fl, g, sc, b, g⟩) 7)]
      (fun nw v => ∃ x d T, nw = [(x, instObj 133 d), (d, dictOf (shapeEs w T (Str.ofString "display") ⟨Us.size .display g, p, g, sc, b⟩) 11)] ∧ v = .ref x) := by
  refine unBox ?_
  simp (zetaDelta := true) (disch := (k_dflt (
    refine inBox ?_
    intro dp' un gd cn cs a ccd cl outer A₀ base h₀ L m s Q E B F X N T hk hd hu hret
    have cE := InElt.start s.heap
    walk_at "MyEnter"
    k_steps
    rename News _ _ _ _ => NE
    have N5 := cb_drop (news := [_, _]) NE (List.forall_mem_cons.mpr ⟨.head _, List.forall_mem_cons.mpr ⟨.tail _ (.head _), List.forall_mem_nil _⟩⟩)
    exact hret _ _ _ _ (by assumption) N5 (shFin rfl)
    ))) only [↓Box.of]
end
end
section
theorem kw_80_rows : True := by
  k_with_none
  k_with "MyEnter" => (refine wpAny_call ?_; k_dflt (refine' code_defG ?k1 ?k2 ?k3 ?k4 ?k5 ?kA ?kF ?kK ?k6 ?k7 ?k8 ?k9 ?kB ?_ ?c2 ?c3 ?c4 ?c5; (case kA => exact rfl); (case kF => exact rfl); (case kK => assumption); (case k1 => k_asm); (case k2 => k_asm); (case k3 => k_asm); (case k4 => k_asm); (case k5 => k_asm); (case k6 => k_is); (case k7 => k_is); (case k8 => ktr_room); (case k9 => first | exact BindsTo.of_eq rfl | exact binds_K (by k_in) rfl (by k_is) rfl rfl rfl); (case c5 => decide); (case kB => exact locs rfl); (case c2 => exact rfl); (case c3 => exact rfl); (case c4 => exact rfl); k_whole; intro g' L' h' FG' F' N' B' X' T' kG'; (try dsimp only); (try k_lift B'); (try k_fold)))
  k_with "binaryOp FloorDiv int int" => (k_here; (with_reducible refine floordiv_int ?d0 ?_ (Or.inl ?d1)); (case d0 => first | with_reducible assumption | decide | omega); (case d1 => first | with_reducible assumption | exact PyProof.noPylong_of_log2 (by decide +kernel)))
  k_with "MyKEnter" => ((fail_if_success k_inElt); (refine' code_defC ?k1 ?k2 ?k3 ?k4 ?k5 ?kA ?kF ?kK ?k6 ?k7 ?k8 ?k9 ?kB ?kD ?_ ?c2 ?c3 ?c4; (case kA => exact rfl); (case kF => exact rfl); (case kK => exact rfl); (case k1 => k_asm); (case k2 => k_asm); (case k3 => k_asm); (case k4 => k_asm); (case k5 => k_asm); (case k6 => k_is); (case k7 => k_is); (case k8 => ktr_room); (case k9 => first | exact BindsTo.of_eq rfl | exact binds_K (by k_in) rfl (by k_is) rfl rfl rfl | fail "k_enter: no rule for these arguments"); (case kB => exact rfl); (case kD => decide +kernel); (case c2 => exact rfl); (case c3 => exact rfl); (case c4 => exact rfl); k_whole; intro g' L' h' tk' cells' FG' F' N' Y' B' X' T' l1; (try k_lt l1); k_cells Y'; (try simp only [List.cons_append, List.nil_append] at N'); (try dsimp only); (try k_lift B'); (try k_fold)))
  k_with "MyKEnter" => ((fail_if_success k_inElt); (refine' code_def ?k1 ?k2 ?k3 ?k4 ?k5 ?kA ?kF ?kK ?k6 ?k7 ?k8 ?k9 ?kB ?_ ?c2 ?c3 ?c4 ?c5; (case kA => exact rfl); (case kF => exact rfl); (case kK => exact rfl); (case k1 => k_asm); (case k2 => k_asm); (case k3 => k_asm); (case k4 => k_asm); (case k5 => k_asm); (case k6 => k_is); (case k7 => k_is); (case k8 => ktr_room); (case k9 => first | exact BindsTo.of_eq rfl | exact binds_K (by k_in) rfl (by k_is) rfl rfl rfl | fail "k_enter: no rule for these arguments"); (case c5 => decide); (case kB => exact locs rfl); (case c2 => exact rfl); (case c3 => exact rfl); (case c4 => exact rfl); k_whole; intro g' L' h' FG' F' N' B' X' T'; (try dsimp only); (try k_lift B'); (try k_fold)))
  k_with "MyPre" => first | with_reducible assumption | omega | with_reducible decide | fail "MyPre"
  k_with "execs cons" => ((fail_if_success k_inElt); first | (with_reducible refine consQ (by with_reducible assumption) (fun Q9 hQ9 => ?_)) | (with_reducible refine consQQ (fun Q8 hQ8 Q9 hQ9 => ?_)))
  k_with "execs cons" => (k_made; walk_at "execs cons")
  k_with "execs cons" => ((with_reducible show wpAny _ _ _ _ _ (Shared.mk _ _ _ (@HAdd.hAdd Nat Nat Nat _ _ _) _)); refine stGen s rfl rfl rfl (fun tk9 => ?_); (try dsimp only))
  k_with "MyQ" => ((fail_if_success (with_reducible show wpAny _ _ _ _ _ _)); (with_reducible first | refine qNext (by with_reducible assumption) ?_ | refine qRet (by with_reducible assumption) ?_ | refine qBrk (by with_reducible assumption) ?_ | refine qCont (by with_reducible assumption) ?_ | refine qGen (by with_reducible assumption) ?_); (try dsimp only))
  k_with "MyAll" => first | k_extra "MyQ" | (k_unfold; (try dsimp only)) | (k_end; kc_close) | walk1 | (dsimp only; walk1) | (leave1; walk_say "STEP leave1"; (try dsimp only)) | fail "no step"
  k_with "eval Name" => (k_here; (with_reducible show wpAny _ _ (eval (Expr.Name _ _) (envOf _ _ _ _ _)) _ _ _); k_dflt (refine' ld ?k1 ?k2 ?_ rfl (by kernel_rfl!) (by kernel_rfl!); (case k1 => k_asm); (case k2 => exact rfl); k_whole))
  k_with "MySize" => ((with_reducible show List.length (List.nil) ≤ _); exact Nat.zero_le _)
  k_with "MyKSub" => (intro p77 hp77; (repeat (first | with_reducible exact hp77 | with_reducible refine List.mem_cons_of_mem _ ?_)); done)
  trivial
/-- a row of the law's -/
structure Rw where
  (q : Addr) (y : Str) (sc g : Int) (b : Bool) (t1 t2 t3 : Tok) (k : Nat)
noncomputable abbrev Rw.ref (r : Rw) : Value := .ref r.q
noncomputable abbrev Rw.key (r : Rw) : Str × Int × Int × Bool := (r.y, r.sc, r.g, r.b)
noncomputable abbrev Rw.obj (r : Rw) : Addr × Obj := (r.q, tupOf [.str r.y r.t1, .int r.sc r.t2, .int r.g r.t3, .bool r.b] r.k)
noncomputable def rowsD : List (Str × Int × Int × Bool) := [(Str.ofString "S9(4)", 0, 4, true), (Str.ofString "9(3)V99", 2, 5, false), (Str.ofString "SV9(3)", 3, 3, true), (Str.ofString "S99PP", -2, 2, true), (Str.ofString "9PPP", -3, 1, false), (Str.ofString "SPP99", 4, 2, true), (Str.ofString "S9(18)", 0, 18, true), (Str.ofString "9V9(17)", 17, 18, false)]
section
variable {w : World} {mean : ExcName → Option Value} {mg mb : Str → Option Value}
theorem law_pictures_does : Does w mean mg mb 538 3 [] [] (fun nw v => ∃ r k R, nw = (r, listOf (List.map Rw.ref R).toArray k) :: List.map Rw.obj R ∧ v = .ref r ∧ List.map Rw.key R = rowsD) := by
  refine unBox ?_
  simp (zetaDelta := true) (disch := (k_dflt (
    refine inBox ?_
    intro dp un gd cn cs a ccd cl outer A₀ base h₀ L m s Q E B F X N T hk hd hu hret
    have cE := InElt.start s.heap
    walk_at "MyEnter"
    k_steps
    rename News _ _ _ _ => NE
    refine' hret _ _ _ ((_, listOf (List.map Rw.ref [⟨_, Str.ofString "S9(4)", 0, 4, true, _, _, _, 0⟩, ⟨_, Str.ofString "9(3)V99", 2, 5, false, _, _, _, 0⟩, ⟨_, Str.ofString "SV9(3)", 3, 3, true, _, _, _, 0⟩, ⟨_, Str.ofString "S99PP", -2, 2, true, _, _, _, 0⟩, ⟨_, Str.ofString "9PPP", -3, 1, false, _, _, _, 0⟩, ⟨_, Str.ofString "SPP99", 4, 2, true, _, _, _, 0⟩, ⟨_, Str.ofString "S9(18)", 0, 18, true, _, _, _, 0⟩, ⟨_, Str.ofString "9V9(17)", 17, 18, false, _, _, _, 0⟩]).toArray 0) :: List.map Rw.obj [⟨_, Str.ofString "S9(4)", 0, 4, true, _, _, _, 0⟩, ⟨_, Str.ofString "9(3)V99", 2, 5, false, _, _, _, 0⟩, ⟨_, Str.ofString "SV9(3)", 3, 3, true, _, _, _, 0⟩, ⟨_, Str.ofString "S99PP", -2, 2, true, _, _, _, 0⟩, ⟨_, Str.ofString "9PPP", -3, 1, false, _, _, _, 0⟩, ⟨_, Str.ofString "SPP99", 4, 2, true, _, _, _, 0⟩, ⟨_, Str.ofString "S9(18)", 0, 18, true, _, _, _, 0⟩, ⟨_, Str.ofString "9V9(17)", 17, 18, false, _, _, _, 0⟩]) (by assumption) (cb_drop NE ?hs) ⟨_, _, _, rfl, rfl, rfl⟩
    case hs =>
      simp only [List.map_cons, List.map_nil]
      repeat' (first | exact List.forall_mem_nil _ | (refine List.forall_mem_cons.mpr ⟨?_, ?_⟩) | k_mem)
    ))) only [↓Box.of]
end
end
section
theorem kw_81_pic : True := by
  k_with_none
  k_with "MyEnter" => (refine wpAny_call ?_; k_dflt (refine' code_defG ?k1 ?k2 ?k3 ?k4 ?k5 ?kA ?kF ?kK ?k6 ?k7 ?k8 ?k9 ?kB ?_ ?c2 ?c3 ?c4 ?c5; (case kA => exact rfl); (case kF => exact rfl); (case kK => assumption); (case k1 => k_asm); (case k2 => k_asm); (case k3 => k_asm); (case k4 => k_asm); (case k5 => k_asm); (case k6 => k_is); (case k7 => k_is); (case k8 => ktr_room); (case k9 => first | exact BindsTo.of_eq rfl | exact binds_K (by k_in) rfl (by k_is) rfl rfl rfl); (case c5 => decide); (case kB => exact locs rfl); (case c2 => exact rfl); (case c3 => exact rfl); (case c4 => exact rfl); k_whole; intro g' L' h' FG' F' N' B' X' T' kG'; (try dsimp only); (try k_lift B'); (try k_fold)))
  k_with "binaryOp FloorDiv int int" => (k_here; (with_reducible refine floordiv_int ?d0 ?_ (Or.inl ?d1)); (case d0 => first | with_reducible assumption | decide | omega); (case d1 => first | with_reducible assumption | exact PyProof.noPylong_of_log2 (by decide +kernel)))
  k_with "MyKEnter" => ((fail_if_success k_inElt); (refine' code_defC ?k1 ?k2 ?k3 ?k4 ?k5 ?kA ?kF ?kK ?k6 ?k7 ?k8 ?k9 ?kB ?kD ?_ ?c2 ?c3 ?c4; (case kA => exact rfl); (case kF => exact rfl); (case kK => exact rfl); (case k1 => k_asm); (case k2 => k_asm); (case k3 => k_asm); (case k4 => k_asm); (case k5 => k_asm); (case k6 => k_is); (case k7 => k_is); (case k8 => ktr_room); (case k9 => first | exact BindsTo.of_eq rfl | exact binds_K (by k_in) rfl (by k_is) rfl rfl rfl | fail "k_enter: no rule for these arguments"); (case kB => exact rfl); (case kD => decide +kernel); (case c2 => exact rfl); (case c3 => exact rfl); (case c4 => exact rfl); k_whole; intro g' L' h' tk' cells' FG' F' N' Y' B' X' T' l1; (try k_lt l1); k_cells Y'; (try simp only [List.cons_append, List.nil_append] at N'); (try dsimp only); (try k_lift B'); (try k_fold)))
  k_with "MyKEnter" => ((fail_if_success k_inElt); (refine' code_def ?k1 ?k2 ?k3 ?k4 ?k5 ?kA ?kF ?kK ?k6 ?k7 ?k8 ?k9 ?kB ?_ ?c2 ?c3 ?c4 ?c5; (case kA => exact rfl); (case kF => exact rfl); (case kK => exact rfl); (case k1 => k_asm); (case k2 => k_asm); (case k3 => k_asm); (case k4 => k_asm); (case k5 => k_asm); (case k6 => k_is); (case k7 => k_is); (case k8 => ktr_room); (case k9 => first | exact BindsTo.of_eq rfl | exact binds_K (by k_in) rfl (by k_is) rfl rfl rfl | fail "k_enter: no rule for these arguments"); (case c5 => decide); (case kB => exact locs rfl); (case c2 => exact rfl); (case c3 => exact rfl); (case c4 => exact rfl); k_whole; intro g' L' h' FG' F' N' B' X' T'; (try dsimp only); (try k_lift B'); (try k_fold)))
  k_with "MyPre" => first | with_reducible assumption | omega | with_reducible decide | fail "MyPre"
  k_with "execs cons" => ((fail_if_success k_inElt); first | (with_reducible refine consQ (by with_reducible assumption) (fun Q9 hQ9 => ?_)) | (with_reducible refine consQQ (fun Q8 hQ8 Q9 hQ9 => ?_)))
  k_with "execs cons" => (k_made; walk_at "execs cons")
  k_with "execs cons" => ((with_reducible show wpAny _ _ _ _ _ (Shared.mk _ _ _ (@HAdd.hAdd Nat Nat Nat _ _ _) _)); refine stGen s rfl rfl rfl (fun tk9 => ?_); (try dsimp only))
  k_with "MyQ" => ((fail_if_success (with_reducible show wpAny _ _ _ _ _ _)); (with_reducible first | refine qNext (by with_reducible assumption) ?_ | refine qRet (by with_reducible assumption) ?_ | refine qBrk (by with_reducible assumption) ?_ | refine qCont (by with_reducible assumption) ?_ | refine qGen (by with_reducible assumption) ?_); (try dsimp only))
  k_with "MyAll" => first | k_extra "MyQ" | (k_unfold; (try dsimp only)) | (k_end; kc_close) | walk1 | (dsimp only; walk1) | (leave1; walk_say "STEP leave1"; (try dsimp only)) | fail "no step"
  k_with "eval Name" => (k_here; (with_reducible show wpAny _ _ (eval (Expr.Name _ _) (envOf _ _ _ _ _)) _ _ _); k_dflt (refine' ld ?k1 ?k2 ?_ rfl (by kernel_rfl!) (by kernel_rfl!); (case k1 => k_asm); (case k2 => exact rfl); k_whole))
  k_with "MySize" => ((with_reducible show List.length (List.nil) ≤ _); exact Nat.zero_le _)
  k_with "MyKSub" => (intro p77 hp77; (repeat (first | with_reducible exact hp77 | with_reducible refine List.mem_cons_of_mem _ ?_)); done)
  trivial
noncomputable def dLaw : DefRec := by
  refine (?f : (y : DefRec) → (⟨Str.ofString "law", fnParams lawAt, fnBody lawAt, fnScope lawAt, fnPos lawAt⟩ : DefRec) = y → DefRec) ?y ?h
  case f => exact fun y _ => y
  case h =>
    conv =>
      lhs
      (conv => arg 2; whnf)
      (conv => arg 3; whnf)
      (conv => arg 4; whnf)
      (conv => arg 5; whnf)
noncomputable abbrev Lse : List Str := [Str.ofString "decimal", Str.ofString "LedgerError", Str.ofString "shape_of"]
theorem hdE : ∀ P, asK = (hdK P).map (·.1) := fun _ => by kernel_rfl
/-- a picture that was read -/
structure Pco where
  (p dp fl : Addr) (lo : Obj) (T : PcT) (y : Str) (sc g : Int) (b : Bool)
noncomputable abbrev Pco.ref (c : Pco) : Value := .ref c.p
noncomputable abbrev Pco.key (c : Pco) : Str × Int × Int × Bool := (c.y, c.sc, c.g, c.b)
noncomputable abbrev Pco.objs (w : World) (c : Pco) : List (Addr × Obj) := [(c.p, instObj 320 c.dp), (c.dp, dictOf (picEs w c.T ⟨c.y, c.fl, c.g, c.sc, c.b, c.g⟩) 7), (c.fl, c.lo)]
theorem rowsAll {w : World} {mean : ExcName → Option Value} {mg mb : Str → Option Value} {r : Str × Int × Int × Bool} (h : r ∈ rowsD) : RowDoes w mean mg mb r.1 r.2.1 r.2.2.1 r.2.2.2 := by
  simp only [rowsD, List.mem_cons, List.not_mem_nil, or_false] at h
  rcases h with rfl | rfl | rfl | rfl | rfl | rfl | rfl | rfl
  · exact row0_does
  · exact row1_does
  · exact row2_does
  · exact row3_does
  · exact row4_does
  · exact row5_does
  · exact row6_does
  · exact row7_does
section
open PySem.Calls PyProof PySem.Spec PyProof.Rows.LCg
variable {prog : Program} {w : World} {A : Around} {E : Value → Shared → Prop} {s : Shared} {env : Env} {h₀ : Heap} {L : Addr} {m : Str → Option Value}
theorem restU_rows {elt : PySem.Expr} {x : Str} {scope : Scope} {cl : List (Str × Addr)} {P : Nat → Value → Prop} {Fin : List Value → List (Addr × Obj) → Prop} {ax : Addr} {its : Array Value} {R9 : List Rw} {base : List (Addr × Obj)}
    (hP : ∀ i v, P i v → ∃ r, R9[i]? = some r ∧ v = r.ref) (hbase : ∀ r ∈ R9, r.obj ∈ base)
    (hsrc : ∃ o, (ax, o) ∈ base ∧ o.cls = .type "list" ∧ ∃ n, o.data = .seq its n)
    (fin : ∀ (Ps : List Pco) news, List.map Pco.key Ps = List.map Rw.key R9 → (∀ p ∈ base, p ∈ news) → (∀ c ∈ Ps, ∀ p ∈ Pco.objs w c, p ∈ news) → Fin (List.map Pco.ref Ps) news)
    (turn : ∀ (r : Rw) I oI C oC D ys m₂ h tk (E' : Value → Shared → Prop) news, r ∈ R9 → (∀ p ∈ base, p ∈ news) → NsObj oC m₂ → m₂ x = some r.ref → Fr h₀ L h m → News h₀ L h ((I, oI) :: (C, oC) :: (D, lst ys) :: news) →
      wpAny (model prog w) A (eval elt (compEnvC scope cl C env)) (fun y s' => ∃ pc : Pco, y = pc.ref ∧ pc.key = r.key ∧ ∃ h' tk', s' = { s with heap := h', toks := tk' } ∧ Fr h₀ L h' m ∧ News h₀ L h' (Pco.objs w pc ++ ((I, oI) :: (C, oC) :: (D, lst ys) :: news)) ∧ (∀ p ∈ Pco.objs w pc, h.get? p.1 = none)) E' { s with heap := h, toks := tk }) :
    ∀ (k i : Nat) (Ps : List Pco) news, i + k = R9.length → List.map Pco.key Ps = List.map Rw.key (R9.take i) → (∀ p ∈ base, p ∈ news) → (∀ c ∈ Ps, ∀ p ∈ Pco.objs w c, p ∈ news) → CompRest prog w A h₀ L m env elt x scope cl s (SrcAt h₀ ax its) P Fin k i (List.map Pco.ref Ps) news
  | 0, i, Ps, news, hi, hk, hb, hc => .zero (fin Ps news (by rw [hk, List.take_of_length_le (by omega)]) hb hc)
  | k + 1, i, Ps, news, hi, hk, hb, hc => .succ fun v I oI C oC D m₂ h tk E' hp hC hx F N off ne => by
    obtain ⟨r, hr, rfl⟩ := hP i v hp
    refine wpAny_mono (turn r I oI C oC D _ m₂ h tk E' news (List.mem_of_getElem? hr) hb hC hx F N) (fun y s' z => ?_) fun _ _ e => e
    obtain ⟨pc, rfl, hkey, h', tk', rfl, F', N', hfr⟩ := z
    have old : ∀ q ∈ (I, oI) :: (C, oC) :: (D, lst (List.map Pco.ref Ps)) :: news, ∀ p ∈ Pco.objs w pc, p.1 ≠ q.1 := fun q hq p hp e => by
      have h1 := hfr p hp
      rw [e, (N q hq).1] at h1
      cases h1
    refine ⟨h', tk', Pco.objs w pc ++ news, rfl, F', (fun p hp => ?_), Off3.of (fun p hp => ?_), .inr ?_, ?_⟩
    · rcases List.mem_cons.mp hp with rfl | hp
      · exact N' _ (List.mem_append_right _ (.head _))
      · rcases List.mem_cons.mp hp with rfl | hp
        · exact N' _ (List.mem_append_right _ (.tail _ (.head _)))
        · rcases List.mem_cons.mp hp with rfl | hp
          · exact N' _ (List.mem_append_right _ (.tail _ (.tail _ (.head _))))
          · rcases List.mem_append.mp hp with hp | hp
            · exact N' _ (List.mem_append_left _ hp)
            · exact N' _ (List.mem_append_right _ (.tail _ (.tail _ (.tail _ hp))))
    · rcases List.mem_append.mp hp with hp | hp
      · exact ⟨old _ (.head _) p hp, old _ (.tail _ (.head _)) p hp, old _ (.tail _ (.tail _ (.head _))) p hp⟩
      · exact off.mem p hp
    · obtain ⟨o, ho, r1⟩ := hsrc
      exact ⟨o, List.mem_append_right _ (hb _ ho), r1⟩
    · have e1 : List.map Pco.ref Ps ++ [pc.ref] = List.map Pco.ref (Ps ++ [pc]) := by rw [List.map_append]; rfl
      dsimp only
      rw [e1]
      refine restU_rows hP hbase hsrc fin turn k (i + 1) (Ps ++ [pc]) (Pco.objs w pc ++ news) (by omega) ?_ (fun p hp => List.mem_append_right _ (hb p hp)) (fun c hc' p hp => ?_)
      · rw [List.take_add_one, hr, List.map_append, List.map_append, hk]
        show _ ++ [pc.key] = _ ++ [r.key]
        rw [hkey]
      · rcases List.mem_append.mp hc' with hc' | hc'
        · exact List.mem_append_right _ (hc c hc' p hp)
        · rw [List.mem_singleton.mp hc'] at hp
          exact List.mem_append_left _ hp
end
end
section
theorem kw_82_law : True := by
  k_with_none
  k_with "MyEnter" => (refine wpAny_call ?_; k_dflt (refine' code_defG ?k1 ?k2 ?k3 ?k4 ?k5 ?kA ?kF ?kK ?k6 ?k7 ?k8 ?k9 ?kB ?_ ?c2 ?c3 ?c4 ?c5; (case kA => exact rfl); (case kF => exact rfl); (case kK => assumption); (case k1 => k_asm); (case k2 => k_asm); (case k3 => k_asm); (case k4 => k_asm); (case k5 => k_asm); (case k6 => k_is); (case k7 => k_is); (case k8 => ktr_room); (case k9 => first | exact BindsTo.of_eq rfl | exact binds_K (by k_in) rfl (by k_is) rfl rfl rfl); (case c5 => decide); (case kB => exact locs rfl); (case c2 => exact rfl); (case c3 => exact rfl); (case c4 => exact rfl); k_whole; intro g' L' h' FG' F' N' B' X' T' kG'; (try dsimp only); (try k_lift B'); (try k_fold)))
  k_with "binaryOp FloorDiv int int" => (k_here; (with_reducible refine floordiv_int ?d0 ?_ (Or.inl ?d1)); (case d0 => first | with_reducible assumption | decide | omega); (case d1 => first | with_reducible assumption | exact PyProof.noPylong_of_log2 (by decide +kernel)))
  k_with "MyKEnter" => ((fail_if_success k_inElt); (refine' code_defC ?k1 ?k2 ?k3 ?k4 ?k5 ?kA ?kF ?kK ?k6 ?k7 ?k8 ?k9 ?kB ?kD ?_ ?c2 ?c3 ?c4; (case kA => exact rfl); (case kF => exact rfl); (case kK => exact rfl); (case k1 => k_asm); (case k2 => k_asm); (case k3 => k_asm); (case k4 => k_asm); (case k5 => k_asm); (case k6 => k_is); (case k7 => k_is); (case k8 => ktr_room); (case k9 => first | exact BindsTo.of_eq rfl | exact binds_K (by k_in) rfl (by k_is) rfl rfl rfl | fail "k_enter: no rule for these arguments"); (case kB => exact rfl); (case kD => decide +kernel); (case c2 => exact rfl); (case c3 => exact rfl); (case c4 => exact rfl); k_whole; intro g' L' h' tk' cells' FG' F' N' Y' B' X' T' l1; (try k_lt l1); k_cells Y'; (try simp only [List.cons_append, List.nil_append] at N'); (try dsimp only); (try k_lift B'); (try k_fold)))
  k_with "MyKEnter" => ((fail_if_success k_inElt); (refine' code_def ?k1 ?k2 ?k3 ?k4 ?k5 ?kA ?kF ?kK ?k6 ?k7 ?k8 ?k9 ?kB ?_ ?c2 ?c3 ?c4 ?c5; (case kA => exact rfl); (case kF => exact rfl); (case kK => exact rfl); (case k1 => k_asm); (case k2 => k_asm); (case k3 => k_asm); (case k4 => k_asm); (case k5 => k_asm); (case k6 => k_is); (case k7 => k_is); (case k8 => ktr_room); (case k9 => first | exact BindsTo.of_eq rfl | exact binds_K (by k_in) rfl (by k_is) rfl rfl rfl | fail "k_enter: no rule for these arguments"); (case c5 => decide); (case kB => exact locs rfl); (case c2 => exact rfl); (case c3 => exact rfl); (case c4 => exact rfl); k_whole; intro g' L' h' FG' F' N' B' X' T'; (try dsimp only); (try k_lift B'); (try k_fold)))
  k_with "MyPre" => first | with_reducible assumption | omega | with_reducible decide | fail "MyPre"
  k_with "execs cons" => ((fail_if_success k_inElt); first | (with_reducible refine consQ (by with_reducible assumption) (fun Q9 hQ9 => ?_)) | (with_reducible refine consQQ (fun Q8 hQ8 Q9 hQ9 => ?_)))
  k_with "execs cons" => (k_made; walk_at "execs cons")
  k_with "execs cons" => ((with_reducible show wpAny _ _ _ _ _ (Shared.mk _ _ _ (@HAdd.hAdd Nat Nat Nat _ _ _) _)); refine stGen s rfl rfl rfl (fun tk9 => ?_); (try dsimp only))
  k_with "MyQ" => ((fail_if_success (with_reducible show wpAny _ _ _ _ _ _)); (with_reducible first | refine qNext (by with_reducible assumption) ?_ | refine qRet (by with_reducible assumption) ?_ | refine qBrk (by with_reducible assumption) ?_ | refine qCont (by with_reducible assumption) ?_ | refine qGen (by with_reducible assumption) ?_); (try dsimp only))
  k_with "MyAll" => first | k_extra "MyQ" | (k_unfold; (try dsimp only)) | (k_end; kc_close) | walk1 | (dsimp only; walk1) | (leave1; walk_say "STEP leave1"; (try dsimp only)) | fail "no step"
  k_with "eval Name" => (k_here; (with_reducible show wpAny _ _ (eval (Expr.Name _ _) (envOf _ _ _ _ _)) _ _ _); k_dflt (refine' ld ?k1 ?k2 ?_ rfl (by kernel_rfl!) (by kernel_rfl!); (case k1 => k_asm); (case k2 => exact rfl); k_whole))
  k_with "MySize" => ((with_reducible show List.length (List.nil) ≤ _); exact Nat.zero_le _)
  k_with "MyKSub" => (intro p77 hp77; (repeat (first | with_reducible exact hp77 | with_reducible refine List.mem_cons_of_mem _ ?_)); done)
  trivial
theorem itemAt {prog : Program} {w : World} {A : Around} {E : Value → Shared → Prop} {s : Shared} {value slice : PySem.Expr} {l : Addr} {vs : List Value} {k : Int} {u : Tok} {v : Value} {Q : Value → Shared → Prop}
    (hl : s.heap.IsList l vs.toArray) (h0 : 0 ≤ k) (h8 : k < 8) (hx : vs[k.toNat]? = some v) (h : Q v s)
    (hs : subscripted slice false (.ref l) (.int k u) = operate [.ref l, .int k u] (getItem (.ref l) (.int k u)) := by with_unfolding_all rfl) :
    wpAny (model prog w) A (subscriptTail value slice (.ref l) (.int k u)) Q E s :=
  tail_any hl.typeIs slot_list_getitem.lookup (wpAny_getItem_list hl h0 (by omega) (by simpa using hx) h) hs
theorem itemAtN {prog : Program} {w : World} {A : Around} {E : Value → Shared → Prop} {s : Shared} {value slice : PySem.Expr} {h₀ : Heap} {L : Addr} {nw : List (Addr × Obj)} {l : Addr} {o : Obj} {n : Nat} {vs : List Value} {k : Int} {u : Tok} {v : Value} {Q : Value → Shared → Prop}
    (N : News h₀ L s.heap nw) (hm : (l, o) ∈ nw) (hc : o.cls = .type "list") (hd : o.data = .seq vs.toArray n) (h0 : 0 ≤ k) (h8 : k < 8) (hx : vs[k.toNat]? = some v) (h : Q v s)
    (hs : subscripted slice false (.ref l) (.int k u) = operate [.ref l, .int k u] (getItem (.ref l) (.int k u)) := by with_unfolding_all rfl) :
    wpAny (model prog w) A (subscriptTail value slice (.ref l) (.int k u)) Q E s :=
  itemAt ⟨o, (N _ hm).1, hc, n, hd⟩ h0 h8 hx h hs
/-- the row and the picture at a place -/
structure Pick (R : List Rw) (Ps : List Pco) (k : Int) (c : Pco) (q : Addr) (t1 t2 t3 : Tok) (j : Nat) : Prop where
  pic : Ps[k.toNat]? = some c
  row : R[k.toNat]? = some ⟨q, c.y, c.sc, c.g, c.b, t1, t2, t3, j⟩
  lo : 1 ≤ c.g
  hi : c.g ≤ 18
  slo : -5 ≤ c.sc
  shi : c.sc ≤ 20
  k0 : 0 ≤ k
  k8 : k < 8
theorem pick {R : List Rw} {Ps : List Pco} (h1 : List.map Rw.key R = rowsD) (h2 : List.map Pco.key Ps = rowsD) {k : Int} (h0 : 0 ≤ k) (h8 : k < 8) : ∃ c q t1 t2 t3 j, Pick R Ps k c q t1 t2 t3 j := by
  have l1 : k.toNat < R.length := by rw [← List.length_map (f := Rw.key), h1]; show k.toNat < 8; omega
  have l2 : k.toNat < Ps.length := by rw [← List.length_map (f := Pco.key), h2]; show k.toNat < 8; omega
  have e1 : Rw.key R[k.toNat] = Pco.key Ps[k.toNat] := by
    have a := congrArg (fun l : List (Str × Int × Int × Bool) => l[k.toNat]?) (h1.trans h2.symm)
    simpa [List.getElem?_eq_getElem l1, List.getElem?_eq_getElem l2] using a
  have hm : Pco.key Ps[k.toNat] ∈ rowsD := by rw [← h2]; exact List.mem_map.mpr ⟨_, List.getElem_mem l2, rfl⟩
  have hB : ∀ r ∈ rowsD, 1 ≤ r.2.2.1 ∧ r.2.2.1 ≤ 18 ∧ -5 ≤ r.2.1 ∧ r.2.1 ≤ 20 := by decide +kernel
  have hB := hB _ hm
  generalize hc : Ps[k.toNat] = c at e1 hB
  generalize hr : R[k.toNat] = r at e1
  obtain ⟨q, y, sc, g, b, t1, t2, t3, j⟩ := r
  simp only [Rw.key, Pco.key, Prod.mk.injEq] at e1
  obtain ⟨rfl, rfl, rfl, rfl⟩ := e1
  exact ⟨c, q, t1, t2, t3, j, (List.getElem?_eq_getElem l2).trans (congrArg some hc), (List.getElem?_eq_getElem l1).trans (congrArg some hr), hB.1, hB.2.1, hB.2.2.1, hB.2.2.2, h0, h8⟩
theorem mapAt {α β : Type} {f : α → β} {l : List α} {i : Nat} {a : α} (h : l[i]? = some a) : (List.map f l)[i]? = some (f a) := by rw [List.getElem?_map, h]; rfl
/-- one of the written cases: a place, units, a scale -/
noncomputable def GoodT (NW : List (Addr × Obj)) (v : Value) : Prop := ∃ q a u sc t1 t2 t3 k, v = .ref q ∧ (q, tupOf [.int a t1, .int u t2, .int sc t3] k) ∈ NW ∧ 0 ≤ a ∧ a < 8 ∧ u.natAbs < 10 ^ 28 ∧ 0 ≤ sc ∧ sc ≤ 15
theorem goodT {q : Addr} {o : Obj} {NW : List (Addr × Obj)} (hm : (q, o) ∈ NW) (h : ∃ a u sc t1 t2 t3 k, o = tupOf [.int a t1, .int u t2, .int sc t3] k ∧ 0 ≤ a ∧ a < 8 ∧ u.natAbs < 10 ^ 28 ∧ 0 ≤ sc ∧ sc ≤ 15) : GoodT NW (.ref q) := by
  obtain ⟨a, u, sc, t1, t2, t3, k, rfl, h⟩ := h
  exact ⟨q, a, u, sc, t1, t2, t3, k, rfl, hm, h⟩
section
variable {prog : Program} {w : World} {A : Around} {E : Value → Shared → Prop} {s : Shared} {env : Env} {h₀ : Heap} {target : PySem.Expr} {body : List Stmt} {Q : Flow → Shared → Prop}
/-- a loop over a written tuple whose turns change names alone -/
theorem tupInd {I : Addr} {keep NW : List (Addr × Obj)} (R : (Str → Option Value) → Prop) (hkeep : SubL keep NW) (hlt : ∀ p ∈ NW, p.1 < I)
    (turn : ∀ v m h tk it, GoodT NW v → R m → Fr h₀ env.locals h m → News h₀ env.locals h ((I, it) :: NW) →
      wpAny (model prog w) A (assign target env v) (fun _ s₂ => wpAny (model prog w) A (execs body env) (UnrPostW h₀ env.locals { s with heap := h, toks := tk } [(I, it)] (fun m' n' => n' = NW ∧ R m') Q) E s₂) E { s with heap := h, toks := tk })
    (done : ∀ m h tk, R m → Fr h₀ env.locals h m → News h₀ env.locals h NW → Q .next { s with heap := h, toks := tk }) :
    ∀ (items : List Value) m, (∀ v ∈ items, GoodT NW v) → R m → ItemsRest prog w A E h₀ env target body Q s [(I, "tuple_iterator")] keep (items.map .val) m NW
  | [], m, _, r => .zero fun h tk F N => done m h tk r F N
  | v :: items, m, hg, r => .val fun h tk F it hit => fun N =>
    wpAny_mono (turn v m h tk it (hg v (.head _)) r F N) (fun _ s₂ z => wpAny_mono z (fun f s₃ y => by
      have go : UnrEndW h₀ env.locals { s with heap := h, toks := tk } [(I, it)] (fun m' n' => n' = NW ∧ R m') s₃ → UnrEndW h₀ env.locals { s with heap := h, toks := tk } [(I, it)] (fun m' n' => SubL keep n' ∧ ItemsRest prog w A E h₀ env target body Q s [(I, "tuple_iterator")] keep (items.map .val) m' n') s₃ := fun ⟨h', tk', m', n', e, F', N', o, e2, r'⟩ =>
        ⟨h', tk', m', n', e, F', N', o, by subst e2; exact ⟨hkeep, tupInd R hkeep hlt turn done items m' (fun v hv => hg v (.tail _ hv)) r'⟩⟩
      cases f with
      | ret v => exact y
      | brk => exact y
      | next => exact go y
      | cont => exact go y) fun _ _ e => e) fun _ _ e => e
theorem tupEnd {I : Addr} {it : Obj} {NW all : List (Addr × Obj)} {R : (Str → Option Value) → Prop} {L : Addr} {h' : Heap} {tk : Nat} {m' : Str → Option Value} (hlt : ∀ p ∈ NW, p.1 < I) (F : Fr h₀ L h' m') (N : News h₀ L h' all) (hI : (I, it) ∈ all) (hs : ∀ p ∈ NW, p ∈ all) (r : R m') :
    UnrEndW h₀ L s [(I, it)] (fun m' n' => n' = NW ∧ R m') { s with heap := h', toks := tk } :=
  ⟨h', tk, m', NW, rfl, F, (fun p hp => (List.mem_append.mp hp).elim (fun hp => by rw [List.mem_singleton.mp hp]; exact N _ hI) fun hp => N p (hs p hp)), (fun p hp q hq => by rw [List.mem_singleton.mp hq]; exact Nat.ne_of_lt (hlt p hp)), rfl, r⟩
end
/-- the ledger by what is asked of it -/
theorem absN {G : Prop} {h₀ h : Heap} {L : Addr} {l news : List (Addr × Obj)} {a : Addr} {n : Nat} (vs : List Value) {b c : Addr × Obj} (N : News h₀ L h l) (ha : (a, tupOf vs n) ∈ l) (hb : b ∈ l) (hc : c ∈ l) (hn : ∀ p ∈ news, p ∈ l) (hv : ∀ v ∈ vs, GoodT l v)
    (H : ∀ NW, News h₀ L h NW → (a, tupOf vs n) ∈ NW → b ∈ NW → c ∈ NW → (∀ p ∈ news, p ∈ NW) → (∀ v ∈ vs, GoodT NW v) → G) : G := H l N ha hb hc hn hv
/-- between the cases: the three names hold anything -/
noncomputable def ThreeR (M : Str → Option Value) (m : Str → Option Value) : Prop := ∃ u1 u2 u3, m = fun y => if y = Str.ofString "scale" then u3 else if y = Str.ofString "units" then u2 else if y = Str.ofString "at" then u1 else M y
theorem ThreeR.start (m : Str → Option Value) : ThreeR m m := by
  refine ⟨m (Str.ofString "at"), m (Str.ofString "units"), m (Str.ofString "scale"), ?_⟩
  funext y
  by_cases h1 : y = Str.ofString "scale"
  · rw [if_pos h1, h1]
  · rw [if_neg h1]
    by_cases h2 : y = Str.ofString "units"
    · rw [if_pos h2, h2]
    · rw [if_neg h2]
      by_cases h3 : y = Str.ofString "at"
      · rw [if_pos h3, h3]
      · rw [if_neg h3]
theorem ThreeR.next {M : Str → Option Value} {u1 u2 u3 v1 v2 v3 : Option Value} : ThreeR M (fun y => if y = Str.ofString "scale" then v3 else if y = Str.ofString "units" then v2 else if y = Str.ofString "at" then v1 else (fun y => if y = Str.ofString "scale" then u3 else if y = Str.ofString "units" then u2 else if y = Str.ofString "at" then u1 else M y) y) := by
  refine ⟨v1, v2, v3, ?_⟩
  funext y
  by_cases h1 : y = Str.ofString "scale"
  · simp only [if_pos h1]
  · by_cases h2 : y = Str.ofString "units"
    · simp only [if_neg h1, if_pos h2]
    · by_cases h3 : y = Str.ofString "at"
      · simp only [if_neg h1, if_neg h2, if_pos h3]
      · simp only [if_neg h1, if_neg h2, if_neg h3]
theorem menu3 (k : Int) (t1 t2 t3 : Tok) (h0 : 0 ≤ k) (h3 : k < 3) : ∃ U t, [Value.str (Str.ofString "packed") t1, .str (Str.ofString "display") t2, .str (Str.ofString "binary") t3][k.toNat]? = some (.str (Us.str U) t) := by
  rcases (by omega : k = 0 ∨ k = 1 ∨ k = 2) with rfl | rfl | rfl
  · exact ⟨.packed, _, rfl⟩
  · exact ⟨.display, _, rfl⟩
  · exact ⟨.binary, _, rfl⟩
theorem modIn (x : Int) {n : Int} (h : 0 < n) : 0 ≤ x.fmod n ∧ x.fmod n < n := by
  rw [Int.fmod_eq_emod_of_nonneg _ (by omega)]
  exact ⟨Int.emod_nonneg _ (by omega), Int.emod_lt_of_pos _ h⟩
/-- the inner while's state -/
theorem whStart (x y : Int) : 0 ≤ x.fmod (10 ^ Int.toNat 22) ∧ x.fmod (10 ^ Int.toNat 22) < 10000000000000000000000 ∧ 0 ≤ y.fmod 9 ∧ y.fmod 9 ≤ 8 := by
  have h := modIn x (n := 10 ^ Int.toNat 22) (by decide)
  have h' := modIn y (n := 9) (by decide)
  exact ⟨h.1, h.2, h'.1, by omega⟩
theorem whTurn {u s : Int} (h : 0 ≤ u) (h2 : u < 10000000000000000000000) (h3 : s ≤ 8) (h1 : 0 < s) : 0 ≤ u.fdiv 10 ∧ u.fdiv 10 < 10000000000000000000000 ∧ 0 ≤ s - 1 ∧ s - 1 ≤ 8 := by
  rw [Int.fdiv_eq_ediv_of_nonneg _ (by decide)]
  omega
/-- the inner while's test, its ways joined -/
structure TestP (u sc : Int) (s : Shared) (b : Bool) (s₂ : Shared) : Prop where
  yes : b = true → 0 < sc ∧ u.fmod 10 = 0
  same : ∃ tk, s₂ = { s with toks := tk }
theorem testOnce {prog : Program} {w : World} {A : Around} {E : Value → Shared → Prop} {s : Shared} {t : Sem Bool} {Q : Bool → Shared → Prop} {u sc : Int} (_hu : u < 10000000000000000000000) (_hs : sc ≤ 8)
    (h : wpAny (model prog w) A t (TestP u sc s) E s) (yes : 0 < sc → u.fmod 10 = 0 → ∀ tk, Q true { s with toks := tk }) (no : ∀ tk, Q false { s with toks := tk }) : wpAny (model prog w) A t Q E s :=
  wpAny_mono h (fun b s₂ p => by
    obtain ⟨tk, rfl⟩ := p.same
    cases b with
    | false => exact no tk
    | true => exact yes (p.yes rfl).1 (p.yes rfl).2 tk) fun _ _ e => e
/-- the units with their sign, the two ways joined -/
structure UnP (s : Shared) (v : Value) (s₂ : Shared) : Prop where
  is : ∃ u t tk, v = .int u t ∧ u.natAbs < 10 ^ 28 ∧ s₂ = { s with toks := tk }
theorem unOnce {prog : Program} {w : World} {A : Around} {E : Value → Shared → Prop} {s : Shared} {t : Sem Value} {Q : Value → Shared → Prop}
    (h : wpAny (model prog w) A t (UnP s) E s) (go : ∀ u t tk, u.natAbs < 10 ^ 28 → Q (.int u t) { s with toks := tk }) : wpAny (model prog w) A t Q E s :=
  wpAny_mono h (fun v s₂ p => by
    obtain ⟨u, t, tk, rfl, hu, rfl⟩ := p.is
    exact go u t tk hu) fun _ _ e => e
theorem noneIn (z : Str) : ¬ (List.contains [] z = true) := Bool.false_ne_true
/-- the second loop's names -/
noncomputable abbrev five : List Str := [Str.ofString "at", Str.ofString "rest", Str.ofString "usage", Str.ofString "scale", Str.ofString "units"]
theorem fiveOff {z : Str} (h : five.contains z = false) : (z ≠ Str.ofString "at" ∧ z ≠ Str.ofString "rest" ∧ z ≠ Str.ofString "usage" ∧ z ≠ Str.ofString "scale" ∧ z ≠ Str.ofString "units") ∧ ¬ (five.contains z = true) := by
  refine ⟨?_, fun e => Bool.false_ne_true (h.symm.trans e)⟩
  simpa using h
theorem law_right_to {w : World} {mean : ExcName → Option Value} {mg mb : Str → Option Value} (x dx : Addr) (T : ShT) (us : Str) (U : Us) (p : Addr) (sc g : Int) (b : Bool) (q : Addr) (kk : Nat) (tx : Str) (u s0 : Int) (t1 t2 t3 t4 t5 : Tok) (hU : us = U.str) (h1 : 1 ≤ g) (h2 : g ≤ 18) (h5 : -5 ≤ sc) (h6 : sc ≤ 20)
    (h7 : u.natAbs < 10 ^ 28) (h8 : 0 ≤ s0) (h9 : s0 ≤ 15) :
    Does w mean mg mb 559 16 [.ref x, .ref q, .int u t1, .int s0 t2] [(x, instObj 133 dx), (dx, dictOf (shapeEs w T us ⟨Us.size U g, p, g, sc, b⟩) 11), (q, tupOf [.str tx t3, .int sc t4, .int g t5, .bool b] kk)] (fun nw v => nw = [] ∧ v = .bool true) := by
  subst hU
  exact law_right_all x dx T U ⟨Us.size U g, p, g, sc, b⟩ q kk tx u s0 t1 t2 t3 t4 t5 h1 h2 rfl h5 h6 h7 h8 h9
theorem kw_82_law_a : True := by
  k_with "call ref" => (k_dflt (k_here; (with_reducible show wpAny _ _ (call (Value.ref 538) _) _ _ _); (fail_if_success k_inElt); k_dflt (refine' Does.use ?k1 ?k2 ?k3 ?k4 ?k5 ?kK (law_pictures_does ) ?kS ?kd ?ku ?_; (case k1 => k_asm); (case k2 => k_asm); (case k3 => k_asm); (case k4 => k_asm); (case k5 => k_asm); (case kK => first | exact rfl | assumption); (case kS => (repeat' (first | exact List.forall_mem_nil _ | (refine List.forall_mem_cons.mpr ⟨?_, ?_⟩) | k_mem | (intro p9 hp9; repeat' (first | exact hp9 | exact List.mem_append_left _ hp9 | exact List.mem_append_right _ hp9 | refine List.Mem.tail _ ?_ | refine List.mem_append_right _ ?_))))); (case kd => ktr_room); (case ku => ktr_units); k_whole); (intro v9 h9 tk9 nw9 E9 F9 N9 hp9; (obtain ⟨f9, k9, R9, hn9, hv9, hR9⟩ := hp9; subst hn9; subst hv9); (try simp only [List.nil_append, List.cons_append] at N9); (try dsimp only); (try k_sweep); (try clear E9))))
  k_with "call ref" => (k_dflt (k_here; (with_reducible show wpAny _ _ (call (Value.ref 192) _) _ _ _); (fail_if_success k_inElt); k_dflt (refine' Does.use ?k1 ?k2 ?k3 ?k4 ?k5 ?kK (shape_of_one _ _ _ _ _ _ _ _ ?p0 ?p1) ?kS ?kd ?ku ?_; (case k1 => k_asm); (case k2 => k_asm); (case k3 => k_asm); (case k4 => k_asm); (case k5 => k_asm); (case kK => first | exact rfl | assumption); (case kS => (repeat' (first | exact List.forall_mem_nil _ | (refine List.forall_mem_cons.mpr ⟨?_, ?_⟩) | k_mem | (intro p9 hp9; repeat' (first | exact hp9 | exact List.mem_append_left _ hp9 | exact List.mem_append_right _ hp9 | refine List.Mem.tail _ ?_ | refine List.mem_append_right _ ?_))))); (case kd => ktr_room); (case ku => ktr_units); (case p0 => walk_at "MyPre"); (case p1 => walk_at "MyPre"); k_whole); (intro v9 h9 tk9 nw9 E9 F9 N9 hp9; (obtain ⟨x9, d9, T9, hn9, hv9⟩ := hp9; subst hn9; subst hv9); (try simp only [List.nil_append, List.cons_append] at N9); (try dsimp only); (try k_sweep); (try clear E9))))
  k_with "call ref" => (k_dflt (k_here; (with_reducible show wpAny _ _ (call (Value.ref 192) _) _ _ _); (fail_if_success k_inElt); k_dflt (refine' Does.use ?k1 ?k2 ?k3 ?k4 ?k5 ?kK (shape_of_us _ _ _ _ _ _ _ _ _ _ ?p0 ?p1) ?kS ?kd ?ku ?_; (case k1 => k_asm); (case k2 => k_asm); (case k3 => k_asm); (case k4 => k_asm); (case k5 => k_asm); (case kK => first | exact rfl | assumption); (case kS => (repeat' (first | exact List.forall_mem_nil _ | (refine List.forall_mem_cons.mpr ⟨?_, ?_⟩) | k_mem | (intro p9 hp9; repeat' (first | exact hp9 | exact List.mem_append_left _ hp9 | exact List.mem_append_right _ hp9 | refine List.Mem.tail _ ?_ | refine List.mem_append_right _ ?_))))); (case kd => ktr_room); (case ku => ktr_units); (case p0 => walk_at "MyPre"); (case p1 => walk_at "MyPre"); k_whole); (intro v9 h9 tk9 nw9 E9 F9 N9 hp9; (obtain ⟨x9, d9, T9, hn9, hv9⟩ := hp9; subst hn9; subst hv9); (try simp only [List.nil_append, List.cons_append] at N9); (try dsimp only); (try k_sweep); (try clear E9))))
  k_with "call ref" => (k_dflt (k_here; (with_reducible show wpAny _ _ (call (Value.ref 559) _) _ _ _); (fail_if_success k_inElt); k_dflt (refine' Does.use ?k1 ?k2 ?k3 ?k4 ?k5 ?kK (law_right_to _ _ _ _ _ _ _ _ _ _ _ _ _ _ _ _ _ _ _ ?p0 ?p1 ?p2 ?p3 ?p4 ?p5 ?p6 ?p7) ?kS ?kd ?ku ?_; (case k1 => k_asm); (case k2 => k_asm); (case k3 => k_asm); (case k4 => k_asm); (case k5 => k_asm); (case kK => first | exact rfl | assumption); (case kS => (repeat' (first | exact List.forall_mem_nil _ | (refine List.forall_mem_cons.mpr ⟨?_, ?_⟩) | k_mem | (intro p9 hp9; repeat' (first | exact hp9 | exact List.mem_append_left _ hp9 | exact List.mem_append_right _ hp9 | refine List.Mem.tail _ ?_ | refine List.mem_append_right _ ?_))))); (case kd => ktr_room); (case ku => ktr_units); (case p0 => walk_at "MyPre"); (case p1 => walk_at "MyPre"); (case p2 => walk_at "MyPre"); (case p3 => walk_at "MyPre"); (case p4 => walk_at "MyPre"); (case p5 => walk_at "MyPre"); (case p6 => walk_at "MyPre"); (case p7 => walk_at "MyPre"); k_whole); (intro v9 h9 tk9 nw9 E9 F9 N9 hp9; (obtain ⟨hn9, hv9⟩ := hp9; subst hn9; subst hv9); (try simp only [List.nil_append, List.cons_append] at N9); (try dsimp only); (try k_sweep); (try clear E9))))
  k_with "MyPre" => first | ((with_reducible show _ = _); exact rfl) | with_reducible assumption | omega | assumption | fail "MyPre"
  k_with "subscriptTail Name Name ref int" => walk_at "subscriptTail"
  k_with "subscriptTail Name BinOp ref int" => walk_at "subscriptTail"
  k_with "subscriptTail Name Constant ref int" => walk_at "subscriptTail"
  k_with "subscriptTail Subscript Constant ref int" => walk_at "subscriptTail"
  k_with "subscriptTail" => (k_dflt (k_here; (with_reducible show wpAny _ _ (subscriptTail _ _ (Value.ref _) (Value.int _ _)) _ _ _); (with_reducible rename Pick _ _ _ _ _ _ _ _ _ => pk9); (with_reducible rename News _ _ _ _ => N9); (refine' itemAtN (vs := _) N9 ?mem ?hc ?hd ?h0 ?h8 ?hx ?_; (case mem => k_mem); (case hc => exact rfl); (case hd => exact rfl); (case hx => first | exact mapAt (f := Pco.ref) pk9.pic | exact mapAt (f := Rw.ref) pk9.row); (case h0 => exact pk9.k0); (case h8 => exact pk9.k8))))
  k_with "KswEnd" => (k_dflt (k_here; (with_reducible rename Fr _ _ _ _ => F9); (with_reducible rename News _ _ _ _ => N9); (refine' ksw_end (_, _, _, _) F9 N9 ?k1 trivial ?k2 ?k3 ?k4 ?k5); (case k1 => intro p9 hp9; exact List.Mem.tail _ hp9); (case k2 => kst_all); (case k4 => exact whTurn (by assumption) (by assumption) (by assumption) (by assumption)); (case k5 => dsimp only; omega); (case k3 => (intro z9 h9 e9; (have q1 := h9 _ (.head _)); (have q2 := h9 _ (.tail _ (.head _))); clear h9 e9; (try dsimp only at q1 q2); (try dsimp only); (refine (if_neg (by assumption)).trans ((if_neg (by assumption)).trans ((if_neg (by assumption)).trans ((if_neg (by assumption)).trans ((if_neg Bool.false_ne_true).trans ?_))))); with_reducible rfl))))
  k_with "InvEndN" => (k_dflt (k_here; (with_reducible rename Fr _ _ _ _ => F9); (with_reducible rename News _ _ _ _ => N9); (refine' kst_end () F9 N9 ?k1 ?k2 rfl trivial (fun _ h => nomatch h) ?k3 trivial); (case k1 => (intro p9 hp9; repeat (first | exact hp9 | exact List.mem_append_left _ hp9 | refine List.Mem.tail _ ?_))); (case k2 => (intro p9 hp9; repeat (first | exact List.mem_append_right _ hp9 | refine List.Mem.tail _ ?_))); (case k3 => (intro z9 hx9 h9 e9; clear h9; (obtain ⟨⟨q1, q2, q3, q4, q5⟩, q6⟩ := fiveOff e9); clear e9; (try dsimp only); (repeat (first | with_reducible refine (if_neg (show ¬ (z9 = _) by assumption)).trans ?_ | with_reducible refine (if_neg (noneIn _)).trans ?_)); refine (if_neg q6).trans ?_; with_reducible rfl))))
  trivial
local macro_rules | `(tactic| k_qdec) => `(tactic| decide +kernel)
theorem walk : WalkO hdV Lse (XL hdV []) (kHook hdK asK hdE).says PySem.Challenge.rw_pb0273_01.row.toRowW dLaw [] (fun f vs => PySem.call f vs) := by
  refine unBox ?_
  simp (zetaDelta := true) (disch := (k_dflt (
    refine inBox ?_
    delta dLaw
    k_go0
    rename Shared => s
    all_goals (try k_fold)
    repeat ((fail_if_success (with_reducible show wpAny _ _ (exec (Stmt.Assign _ (Expr.ListComp _ _ _ _) _) _) _ _ _)); (first | k_extra "MyQ" | (k_unfold; (try dsimp only)) | walk1 | (dsimp only; walk1)))
    rename Fr _ _ _ _ => F1
    rename List Rw => R9
    rename (List.map Rw.key _ = _) => hR9
    refine LCg.Assign_ListComp_U (F₀ := F1) (by rfl) (by with_unfolding_all rfl) (by with_unfolding_all rfl) (by decide) (by rfl) (by decide) (by rfl) (by rfl) (by rfl) ?_
    repeat ((fail_if_success (with_reducible show LCg.CompSrc _ _ _ _ _ _ _ _ _ _ _ _ _ _)); (first | k_extra "MyQ" | (k_unfold; (try dsimp only)) | walk1 | (dsimp only; walk1)))
    rename Fr _ _ _ _ => F2
    rename News _ _ _ _ => N2
    simp only [List.append_nil] at N2
    have hRl : R9.length = 8 := by rw [← List.length_map (f := Rw.key), hR9]; rfl
    refine LCg.CompSrc.ledger (by rfl) F2 N2 (.head _) (by simp only [List.size_toArray, List.length_map]; rw [PySem.sizeLine_eq]; omega) ?_
    intro g9
    refine restU_rows (R9 := R9) (base := _ :: List.map Rw.obj R9) (fun i v hv => ?hP) (fun r hr => .tail _ (List.mem_map.mpr ⟨r, hr, rfl⟩)) ⟨_, .head _, rfl, _, rfl⟩ ?fin ?turn _ 0 [] _ (by simp) rfl (fun p hp => hp) (fun c hc => nomatch hc)
    case hP =>
      have q : (List.map Rw.ref R9)[i]? = some v := by simpa using hv
      rw [List.getElem?_map] at q
      cases e : R9[i]? with
      | none => rw [e] at q; cases q
      | some r => rw [e] at q; exact ⟨r, rfl, (Option.some.inj q).symm⟩
    case turn =>
      clear F2 N2
      intro r I oI C oC D ys m₂ h tk E' news hr hb hC hx F3 N3
      have hrow : r.obj ∈ news := hb _ (.tail _ (List.mem_map.mpr ⟨r, hr, rfl⟩))
      have hkey : r.key ∈ rowsD := by rw [← hR9]; exact List.mem_map.mpr ⟨r, hr, rfl⟩
      have N4 := newsIn N3 (.tail _ (.tail _ (.tail _ hrow)))
      clear N3
      repeat ((fail_if_success (with_reducible show wpAny _ _ (call (Value.ref 531) _) _ _ _)); (first | k_extra "MyQ" | (k_unfold; (try dsimp only)) | walk1 | (dsimp only; walk1)))
      refine DoesF.use (by k_asm) (by k_asm) (by k_asm) N4 (by k_asm) (by first | exact rfl | assumption) (rowsAll hkey r.t1) (List.forall_mem_nil _) (by ktr_room) (by ktr_units) ?_
      rintro v9 h9 tk9 nw9 F9 N9 hf9 ⟨p, dp, fl, lo, T, rfl, rfl⟩
      exact ⟨⟨p, dp, fl, lo, T, r.y, r.sc, r.g, r.b⟩, rfl, rfl, _, _, rfl, F9, cb_drop N9 (fun q hq => (List.mem_append.mp hq).elim (List.mem_append_left _) fun hq => List.mem_append_right _ (.tail _ hq)), hf9⟩
    case fin =>
      clear F2 N2
      intro Ps news hPs hb hc
      unfold LCg.FinA
      intro D9 h9 tk9 F9 N9 o9
      clear o9
      have hPk : List.map Pco.key Ps = rowsD := hPs.trans hR9
      have N10 := newsIn N9 (.tail _ (hb _ (.head _)))
      clear N9
      dsimp only
      repeat ((fail_if_success (with_reducible show wpAny _ _ (pyIter _) _ _ _)); (first | k_extra "MyQ" | (k_unfold; (try dsimp only)) | walk1 | (dsimp only; walk1)))
      rename Fr _ _ _ _ => F5
      rename News _ _ _ _ => N5
      refine absN (n := 0) [.ref _, .ref _, .ref _, .ref _, .ref _, .ref _, .ref _, .ref _] (b := (D9, LCg.lst (List.map Pco.ref Ps))) (c := (_, listOf (List.map Rw.ref R9).toArray _)) (news := news) N5 (.head _) (by repeat (first | with_reducible exact List.Mem.head _ | refine List.Mem.tail _ ?_)) (by repeat (first | with_reducible exact List.Mem.head _ | refine List.Mem.tail _ ?_)) (fun p hp => by repeat (first | exact hp | refine List.Mem.tail _ ?_)) ?items (fun NW N6 hm0 hm1 hm2 hm3 hg => ?_)
      case items =>
        clear F5 N5
        clear hb hc
        repeat' (first | exact List.forall_mem_nil _ | (refine List.forall_mem_cons.mpr ⟨?_, ?_⟩))
        all_goals (apply goodT; (· repeat (first | exact List.Mem.head _ | refine List.Mem.tail _ ?_)); (· exact ⟨_, _, _, _, _, _, _, rfl, by decide, by decide, by decide, by decide, by decide⟩))
      clear N5
      repeat (rename (((_ : Nat) < _) ∧ _) => z9; clear z9)
      refine iter_tupTurns (n := 0) rfl F5 N6 hm0 rfl rfl (fun I lI => ?_)
      refine tupInd (ThreeR _) ?keep lI ?turn ?done _ _ hg (ThreeR.start _)
      case keep => exact ⟨hm0, trivial⟩
      case turn =>
        clear F5 N6
        intro v m h tk it hg hr F N
        obtain ⟨q, a, u, sc, t1, t2, t3, k, rfl, hq, h0, h8, hu, hs0, hs1⟩ := hg
        obtain ⟨u1, u2, u3, rfl⟩ := hr
        obtain ⟨c, q', w1, w2, w3, j, pk⟩ := pick hR9 hPk h0 h8
        have e1 := pk.lo
        have e2 := pk.hi
        have e3 := pk.slo
        have e4 := pk.shi
        have M0 := newsIn (p := (q', tupOf [.str c.y w1, .int c.sc w2, .int c.g w3, .bool c.b] j)) N (.tail _ (hm3 _ (hb _ (.tail _ (List.mem_map.mpr ⟨_, List.mem_of_getElem? pk.row, rfl⟩)))))
        have M1 := newsIn M0 (.tail _ (.tail _ (hm3 _ (hc _ (List.mem_of_getElem? pk.pic) _ (.tail _ (.head _))))))
        have M2 := newsIn M1 (.tail _ (.tail _ (.tail _ (hm3 _ (hc _ (List.mem_of_getElem? pk.pic) _ (.head _))))))
        have M3 := newsIn M2 (.tail _ (.tail _ (.tail _ (.tail _ hq))))
        have M4 := newsIn M3 (.tail _ (.tail _ (.tail _ (.tail _ (.tail _ hm2)))))
        have M5 := newsIn M4 (.tail _ (.tail _ (.tail _ (.tail _ (.tail _ (.tail _ hm1))))))
        clear N M0 M1 M2 M3 M4 hq
        k_steps
        rename Fr _ _ _ _ => F9
        rename News _ _ _ _ => N9
        exact tupEnd lI F9 N9 (by repeat (first | with_reducible exact List.Mem.head _ | refine List.Mem.tail _ ?_)) (fun p hp => by repeat (first | exact hp | refine List.Mem.tail _ ?_)) ThreeR.next
      case done =>
        clear F5 N6 lI
        intro m h tk hr F N0
        have N := cb_drop (news := (D9, LCg.lst (List.map Pco.ref Ps)) :: (_, listOf (List.map Rw.ref R9).toArray _) :: news) N0 (List.forall_mem_cons.mpr ⟨hm1, List.forall_mem_cons.mpr ⟨hm2, hm3⟩⟩)
        clear N0
        obtain ⟨u1, u2, u3, rfl⟩ := hr
        repeat ((fail_if_success (with_reducible show wpAny _ _ (exec (Stmt.For (Expr.Name _ _) _ _ [] _) _) _ _ _)); (first | k_extra "MyQ" | (k_unfold; (try dsimp only)) | walk1 | (dsimp only; walk1)))
        rename Fr _ _ _ _ => F6
        refine For_invVF F6 rfl rfl ?_
        repeat ((fail_if_success (with_reducible show wpAny _ _ (pyIter _) _ _ _)); (first | k_extra "MyQ" | (k_unfold; (try dsimp only)) | walk1 | (dsimp only; walk1)))
        rename IntsAre _ _ => I6
        rename Fr _ _ _ _ => F6
        rename News _ _ _ _ => N6
        have N7 := cb_drop (news := (_, listOf _ _) :: (D9, LCg.lst (List.map Pco.ref Ps)) :: (_, listOf (List.map Rw.ref R9).toArray _) :: news) N6 (List.forall_mem_cons.mpr ⟨.head _, List.forall_mem_cons.mpr ⟨by repeat (first | with_reducible exact List.Mem.head _ | refine List.Mem.tail _ ?_), List.forall_mem_cons.mpr ⟨by repeat (first | with_reducible exact List.Mem.head _ | refine List.Mem.tail _ ?_), fun p hp => by repeat (first | exact hp | refine List.Mem.tail _ ?_)⟩⟩⟩)
        clear N6
        refine kst_listL (σ := Unit) (fun _ => _) (fun _ => []) (fun _ => True) five (fun _ _ => True) () rfl (fun _ => .head _) I6 F6 N7 trivial (fun _ h => nomatch h) trivial ?turn ?fin
        all_goals (clear F6 N7 I6)
        case turn =>
          intro c9 pre post cell t u h tk own e hn hoff _ _ F N
          dsimp only [kstB] at F
          repeat (rename (((_ : Nat) < _) ∧ _) => z9; clear z9)
          obtain ⟨c, q', w1, w2, w3, j, pk⟩ := pick hR9 hPk (modIn (if cell < 0 then -cell else cell) (n := 8) (by decide)).1 (modIn _ (by decide)).2
          have e1 := pk.lo
          have e2 := pk.hi
          have e3 := pk.slo
          have e4 := pk.shi
          have M0 := newsIn (p := (q', tupOf [.str c.y w1, .int c.sc w2, .int c.g w3, .bool c.b] j)) N (List.mem_append_left _ (.tail _ (.tail _ (.tail _ (hb _ (.tail _ (List.mem_map.mpr ⟨_, List.mem_of_getElem? pk.row, rfl⟩)))))))
          have M1 := newsIn M0 (.tail _ (List.mem_append_left _ (.tail _ (.tail _ (.tail _ (hc _ (List.mem_of_getElem? pk.pic) _ (.tail _ (.head _))))))))
          have M2 := newsIn M1 (.tail _ (.tail _ (List.mem_append_left _ (.tail _ (.tail _ (.tail _ (hc _ (List.mem_of_getElem? pk.pic) _ (.head _))))))))
          clear N M0 M1
          (try simp only [List.cons_append] at M2)
          k_with "state" => exact whStart _ _
          k_steps
          rename News _ _ _ _ => N9
          obtain ⟨U, tU, hU⟩ := menu3 (((if cell < 0 then -cell else cell).fdiv 8).fmod 3) _ _ _ (modIn _ (by decide)).1 (modIn _ (by decide)).2
          refine itemAtN N9 (.head _) rfl rfl (modIn _ (by decide)).1 (Int.lt_trans (modIn _ (by decide)).2 (by decide)) hU ?_
          repeat ((fail_if_success (with_reducible show wpAny _ _ (exec (Stmt.While _ _ _ _) _) _ _ _)); (first | k_extra "MyQ" | (k_unfold; (try dsimp only)) | walk1 | (dsimp only; walk1)))
          k_while (fun _ units scale => 0 ≤ units ∧ units < 10000000000000000000000 ∧ 0 ≤ scale ∧ scale ≤ 8) (fun _ units scale => scale.toNat) "units" "scale"
          rename ((_ : Int) < 10000000000000000000000) => hu9
          rename ((_ : Int) ≤ 8) => hs9
          refine testOnce hu9 hs9 ?test (fun y1 y2 tk9 => ?yes) (fun tk9 => ?no)
          case test =>
            k_steps
            all_goals first | exact ⟨fun _ => ⟨by assumption, by assumption⟩, _, rfl⟩ | exact ⟨(fun h => nomatch h), _, rfl⟩
          case yes => k_steps
          case no =>
            repeat ((fail_if_success (with_reducible show wpAny _ _ (eval (Expr.IfExp _ _ _ _) _) _ _ _)); (first | k_extra "MyQ" | (k_unfold; (try dsimp only)) | walk1 | (dsimp only; walk1)))
            refine unOnce ?un (fun u9 t9 tk9 h9 => ?on)
            case un =>
              k_steps
              all_goals exact ⟨_, _, _, rfl, by omega, rfl⟩
            case on => k_steps
        case fin =>
          intro c u h tk _ _ F N
          dsimp only [kstB] at F
          k_steps
    ))) only [↓Box.of]
end
theorem kw_90_head : True := by
  k_with_none
  k_with "MyEnter" => (refine wpAny_call ?_; k_dflt (refine' code_defG ?k1 ?k2 ?k3 ?k4 ?k5 ?kA ?kF ?kK ?k6 ?k7 ?k8 ?k9 ?kB ?_ ?c2 ?c3 ?c4 ?c5; (case kA => exact rfl); (case kF => exact rfl); (case kK => assumption); (case k1 => k_asm); (case k2 => k_asm); (case k3 => k_asm); (case k4 => k_asm); (case k5 => k_asm); (case k6 => k_is); (case k7 => k_is); (case k8 => ktr_room); (case k9 => first | exact BindsTo.of_eq rfl | exact binds_K (by k_in) rfl (by k_is) rfl rfl rfl); (case c5 => decide); (case kB => exact locs rfl); (case c2 => exact rfl); (case c3 => exact rfl); (case c4 => exact rfl); k_whole; intro g' L' h' FG' F' N' B' X' T' kG'; (try dsimp only); (try k_lift B'); (try k_fold)))
  k_with "binaryOp FloorDiv int int" => (k_here; (with_reducible refine floordiv_int ?d0 ?_ (Or.inl ?d1)); (case d0 => first | with_reducible assumption | decide | omega); (case d1 => first | with_reducible assumption | exact PyProof.noPylong_of_log2 (by decide +kernel)))
  k_with "MyKEnter" => ((fail_if_success k_inElt); (refine' code_defC ?k1 ?k2 ?k3 ?k4 ?k5 ?kA ?kF ?kK ?k6 ?k7 ?k8 ?k9 ?kB ?kD ?_ ?c2 ?c3 ?c4; (case kA => exact rfl); (case kF => exact rfl); (case kK => exact rfl); (case k1 => k_asm); (case k2 => k_asm); (case k3 => k_asm); (case k4 => k_asm); (case k5 => k_asm); (case k6 => k_is); (case k7 => k_is); (case k8 => ktr_room); (case k9 => first | exact BindsTo.of_eq rfl | exact binds_K (by k_in) rfl (by k_is) rfl rfl rfl | fail "k_enter: no rule for these arguments"); (case kB => exact rfl); (case kD => decide +kernel); (case c2 => exact rfl); (case c3 => exact rfl); (case c4 => exact rfl); k_whole; intro g' L' h' tk' cells' FG' F' N' Y' B' X' T' l1; (try k_lt l1); k_cells Y'; (try simp only [List.cons_append, List.nil_append] at N'); (try dsimp only); (try k_lift B'); (try k_fold)))
  k_with "MyKEnter" => ((fail_if_success k_inElt); (refine' code_def ?k1 ?k2 ?k3 ?k4 ?k5 ?kA ?kF ?kK ?k6 ?k7 ?k8 ?k9 ?kB ?_ ?c2 ?c3 ?c4 ?c5; (case kA => exact rfl); (case kF => exact rfl); (case kK => exact rfl); (case k1 => k_asm); (case k2 => k_asm); (case k3 => k_asm); (case k4 => k_asm); (case k5 => k_asm); (case k6 => k_is); (case k7 => k_is); (case k8 => ktr_room); (case k9 => first | exact BindsTo.of_eq rfl | exact binds_K (by k_in) rfl (by k_is) rfl rfl rfl | fail "k_enter: no rule for these arguments"); (case c5 => decide); (case kB => exact locs rfl); (case c2 => exact rfl); (case c3 => exact rfl); (case c4 => exact rfl); k_whole; intro g' L' h' FG' F' N' B' X' T'; (try dsimp only); (try k_lift B'); (try k_fold)))
  k_with "MyPre" => first | with_reducible assumption | omega | with_reducible decide | fail "MyPre"
  k_with "execs cons" => ((fail_if_success k_inElt); first | (with_reducible refine consQ (by with_reducible assumption) (fun Q9 hQ9 => ?_)) | (with_reducible refine consQQ (fun Q8 hQ8 Q9 hQ9 => ?_)))
  k_with "execs cons" => (k_made; walk_at "execs cons")
  k_with "execs cons" => ((with_reducible show wpAny _ _ _ _ _ (Shared.mk _ _ _ (@HAdd.hAdd Nat Nat Nat _ _ _) _)); refine stGen s rfl rfl rfl (fun tk9 => ?_); (try dsimp only))
  k_with "MyQ" => ((fail_if_success (with_reducible show wpAny _ _ _ _ _ _)); (with_reducible first | refine qNext (by with_reducible assumption) ?_ | refine qRet (by with_reducible assumption) ?_ | refine qBrk (by with_reducible assumption) ?_ | refine qCont (by with_reducible assumption) ?_ | refine qGen (by with_reducible assumption) ?_); (try dsimp only))
  k_with "MyAll" => first | k_extra "MyQ" | (k_unfold; (try dsimp only)) | (k_end; kc_close) | walk1 | (dsimp only; walk1) | (leave1; walk_say "STEP leave1"; (try dsimp only)) | fail "no step"
  k_with "eval Name" => (k_here; (with_reducible show wpAny _ _ (eval (Expr.Name _ _) (envOf _ _ _ _ _)) _ _ _); k_dflt (refine' ld ?k1 ?k2 ?_ rfl (by kernel_rfl!) (by kernel_rfl!); (case k1 => k_asm); (case k2 => exact rfl); k_whole))
  k_with "MySize" => ((with_reducible show List.length (List.nil) ≤ _); exact Nat.zero_le _)
  k_with "MyKSub" => (intro p77 hp77; (repeat (first | with_reducible exact hp77 | with_reducible refine List.mem_cons_of_mem _ ?_)); done)
  trivial
namespace head
theorem tw3746228215898030841 : True := trivial
theorem tw11925700103697007601 : True := trivial
theorem tw9065935926736091543 : True := trivial
theorem tw466721876749952763 : True := trivial
theorem tw18433677622606106133 : True := trivial
theorem tw7161073391023584161 : True := trivial
theorem tw2298694737197419510 : True := trivial
theorem tw13508044439285423174 : True := trivial
theorem tw3821945547825155762 : True := trivial
theorem tw4839655697589452165 : True := trivial
theorem tw10988817232074504935 : True := trivial
theorem tw11582096051123008839 : True := trivial
theorem tw11305582741114486441 : True := trivial
theorem tw12287978374625458572 : True := trivial
theorem tw6388477656530123435 : True := trivial
theorem tw15436542981012472205 : True := trivial
theorem tw14882813523228863612 : True := trivial
theorem tw12604462930493870256 : True := trivial
theorem tw5501060405047882677 : True := trivial
theorem tw9107825763807709430 : True := trivial
theorem tw6211381574409162282 : True := trivial
theorem tw9062998866958442273 : True := trivial
theorem tw5507133844067935933 : True := trivial
theorem tw16572314662081343053 : True := trivial
theorem tw12611893724949602041 : True := trivial
theorem tw11821203517306503961 : True := trivial
theorem tw13246386896891170512 : True := trivial
theorem tw2437478716016495240 : True := trivial
theorem tw6085824867444503733 : True := trivial
theorem tw14744981736328886265 : True := trivial
theorem tw17212568112599259466 : True := trivial
theorem tw5019597260055213698 : True := trivial
theorem tw45052839361067614 : True := trivial
theorem tw13942192884097748152 : True := trivial
theorem tw8476099583838051002 : True := trivial
theorem tw1476112073066157877 : True := trivial
theorem tw4163069186122357367 : True := trivial
theorem tw2728595385866086531 : True := trivial
theorem tw11290360913936777911 : True := trivial
theorem tw15895551434495452948 : True := trivial
theorem tw4764554697811233 : True := trivial
theorem tw13337238644230332656 : True := trivial
theorem tw6053349399257934933 : True := trivial
theorem tw17297054508065495485 : True := trivial
theorem tw779419810087314491 : True := trivial
theorem tw10258521583956687137 : True := trivial
theorem tw15967466079928408925 : True := trivial
theorem tw16800043278716471037 : True := trivial
theorem tw10079960370226730655 : True := trivial
theorem tw17015032458148788900 : True := trivial
theorem tw1608297297296620843 : True := trivial
theorem tw12478146576626367362 : True := trivial
theorem tw820421773197932041 : True := trivial
theorem tw2355103038987944067 : True := trivial
theorem tw13585267454733459922 : True := trivial
theorem tw15840312062823119879 : True := trivial
theorem tw3980653432952411973 : True := trivial
theorem tw17173245716831642929 : True := trivial
theorem tw10431609616501453582 : True := trivial
theorem tw3944913497352057107 : True := trivial
theorem tw4196546014268931301 : True := trivial
theorem tw13412022041919118725 : True := trivial
theorem tw6099028997845504075 : True := trivial
theorem tw18364922244981856966 : True := trivial
theorem tw8535708456716222715 : True := trivial
theorem tw8812732774380208333 : True := trivial
theorem tw6237802210402583469 : True := trivial
theorem tw7526775705450560304 : True := trivial
theorem tw4528443807372415038 : True := trivial
theorem tw6053997905714604814 : True := trivial
theorem tw14843749296085226474 : True := trivial
theorem tw11923155195566972133 : True := trivial
theorem tw11427066125472700054 : True := trivial
theorem tw1495726902847802894 : True := trivial
theorem tw17836260108008149386 : True := trivial
theorem tw8874674299285249911 : True := trivial
theorem tw3046917530973155409 : True := trivial
theorem tw11081218982966106116 : True := trivial
theorem tw16817119741492734445 : True := trivial
theorem tw8758324158161630591 : True := trivial
theorem tw14195316510222423288 : True := trivial
theorem tw69809265629811306 : True := trivial
theorem tw6402496994288996404 : True := trivial
theorem tw8101760021730824546 : True := trivial
theorem tw12398312691204496596 : True := trivial
theorem tw6088685845774392931 : True := trivial
theorem tw11434997419882176723 : True := trivial
theorem tw5658691048189421332 : True := trivial
theorem tw13743032657059413451 : True := trivial
theorem tw1503407388533364548 : True := trivial
theorem tw15894371620910866019 : True := trivial
theorem tw4857777746444614323 : True := trivial
theorem tw15798066900824788120 : True := trivial
theorem tw649443455394278489 : True := trivial
theorem tw15539854500240908086 : True := trivial
theorem tw15510365090734361527 : True := trivial
theorem tw15895748673760503845 : True := trivial
theorem tw12310735299239354703 : True := trivial
theorem tw2428695696106030784 : True := trivial
theorem tw10736139440505347576 : True := trivial
theorem tw1082313596108445148 : True := trivial
theorem tw1992862871153497056 : True := trivial
theorem tw8534208459206503383 : True := trivial
theorem tw14112051064653734678 : True := trivial
theorem tw16031315777459398524 : True := trivial
theorem tw48543519692965452 : True := trivial
theorem tw4554283584077286953 : True := trivial
theorem tw18007968972792079559 : True := trivial
theorem tw10270352894671993868 : True := trivial
theorem tw6880043348581005364 : True := trivial
theorem tw4277651752456152607 : True := trivial
theorem tw12859223509727273384 : True := trivial
theorem tw1939405473400901271 : True := trivial
theorem tw17646911460466567920 : True := trivial
theorem tw4972248218790579157 : True := trivial
theorem tw10668533816033670360 : True := trivial
theorem tw12362083183470981646 : True := trivial
theorem tw16769997242578385675 : True := trivial
theorem tw7148437315225170067 : True := trivial
theorem tw6871339299614917876 : True := trivial
theorem tw3690969761935527329 : True := trivial
theorem tw15794997505209512671 : True := trivial
theorem tw10015159338476511836 : True := trivial
theorem tw12024539317367501503 : True := trivial
theorem tw11063524718261073790 : True := trivial
theorem tw3986194592780655508 : True := trivial
theorem tw1315816938146588887 : True := trivial
theorem tw13002585709282622103 : True := trivial
theorem tw1919001801439425371 : True := trivial
theorem tw4307260679431091991 : True := trivial
theorem tw8169693465737517768 : True := trivial
theorem tw8182079617134344778 : True := trivial
theorem tw3160712208675142370 : True := trivial
theorem tw12460202669355646752 : True := trivial
theorem tw16128420640991077102 : True := trivial
theorem tw6327039764776113722 : True := trivial
theorem tw5944575059761466720 : True := trivial
theorem tw8451290768687142514 : True := trivial
theorem tw13137911371727378231 : True := trivial
theorem tw9407594320385231609 : True := trivial
theorem tw9827913525700040407 : True := trivial
theorem tw5986637957666399235 : True := trivial
theorem tw3368474557548986910 : True := trivial
theorem tw7705420606127192585 : True := trivial
theorem tw9658139154387788515 : True := trivial
theorem tw17197444120159719569 : True := trivial
theorem tw8603420104599213669 : True := trivial
theorem tw5617373736292572815 : True := trivial
theorem tw9162278640276766204 : True := trivial
theorem tw9978949632667528635 : True := trivial
theorem tw4473611206160876864 : True := trivial
theorem tw3790771472595898956 : True := trivial
theorem tw6846597200999610202 : True := trivial
theorem tw7494366503370351645 : True := trivial
theorem tw6973584914630602586 : True := trivial
theorem tw14139502460874162764 : True := trivial
theorem tw7748693106545578708 : True := trivial
theorem tw6857060684267632606 : True := trivial
theorem tw13600378441667735501 : True := trivial
theorem tw11988142204041823098 : True := trivial
theorem tw12858780395421280599 : True := trivial
theorem tw12704426703380559182 : True := trivial
theorem tw5599997604879368025 : True := trivial
theorem tw5788964047882338313 : True := trivial
theorem tw7994106446794305319 : True := trivial
theorem tw14877080517539528568 : True := trivial
theorem tw14028522991509751376 : True := trivial
theorem tw1172538174109094731 : True := trivial
theorem tw2506711637615833298 : True := trivial
theorem tw17844492200522320778 : True := trivial
theorem tw2545145822199252752 : True := trivial
theorem tw12359489953124434286 : True := trivial
theorem tw17002534310236347988 : True := trivial
theorem tw12475708393154427166 : True := trivial
theorem tw527386997569798941 : True := trivial
theorem tw6202090305015876224 : True := trivial
theorem tw17093656651364094606 : True := trivial
theorem tw13295774097974887486 : True := trivial
theorem tw14364059080146210839 : True := trivial
theorem tw174166394780034911 : True := trivial
theorem tw16014373381606645092 : True := trivial
theorem tw10467814448475477596 : True := trivial
theorem tw13537664574400122534 : True := trivial
theorem tw9802980913210911633 : True := trivial
theorem tw7680146299302783591 : True := trivial
theorem tw9984397402777080727 : True := trivial
theorem tw4975070653579243887 : True := trivial
theorem tw17113217626458354986 : True := trivial
theorem tw5927865893512547691 : True := trivial
theorem tw14788773977795034992 : True := trivial
theorem tw17782148633632673465 : True := trivial
theorem tw18384547517478447814 : True := trivial
theorem tw497287684792784471 : True := trivial
theorem tw14969872817325187116 : True := trivial
theorem tw14364637388885140079 : True := trivial
theorem tw6588589085864783938 : True := trivial
theorem tw1618804561499322139 : True := trivial
theorem tw8997269238129315039 : True := trivial
theorem tw532055438628499158 : True := trivial
theorem tw10573961123116132518 : True := trivial
theorem tw11005904730967762025 : True := trivial
theorem tw16474958459275807246 : True := trivial
theorem tw8569104457590258164 : True := trivial
theorem tw9082462177598256812 : True := trivial
theorem tw1211024037004892549 : True := trivial
theorem tw10519217271611395807 : True := trivial
theorem tw14234965402570480558 : True := trivial
theorem tw7450023128482652576 : True := trivial
theorem tw3368030927266983236 : True := trivial
theorem tw940147379719373870 : True := trivial
theorem tw300626226527484142 : True := trivial
theorem tw12212823987433534256 : True := trivial
theorem tw6507506987150044280 : True := trivial
theorem tw12903917746401883607 : True := trivial
theorem tw976808484645153763 : True := trivial
theorem tw9820158181544301314 : True := trivial
theorem tw2237326684586592538 : True := trivial
theorem tw12330954535739239725 : True := trivial
theorem tw10205530081349824492 : True := trivial
theorem tw9030979908501067730 : True := trivial
theorem tw533756555076263647 : True := trivial
theorem tw17577399041416155939 : True := trivial
theorem tw4746297304354101679 : True := trivial
theorem tw3688799982635324794 : True := trivial
theorem tw7712916153251135833 : True := trivial
theorem tw13637325136056909300 : True := trivial
theorem tw17188972718952451159 : True := trivial
theorem tw7906546307943345882 : True := trivial
theorem tw315434073420411817 : True := trivial
theorem tw1687793838685487538 : True := trivial
theorem tw12987040726578829979 : True := trivial
theorem tw5508695066786827253 : True := trivial
theorem tw9103479521544129834 : True := trivial
theorem tw13896987355042952010 : True := trivial
theorem tw14205479233844494046 : True := trivial
theorem tw15520248196984853422 : True := trivial
theorem tw851385035628625539 : True := trivial
theorem tw9114333099845857663 : True := trivial
theorem tw1643771367246577777 : True := trivial
theorem tw14527164170590304321 : True := trivial
theorem tw742351954350328859 : True := trivial
theorem tw12695399030622205104 : True := trivial
theorem tw10706776884845955466 : True := trivial
theorem tw4273228799998304602 : True := trivial
theorem tw10840385229135970747 : True := trivial
theorem tw10366927770000222440 : True := trivial
theorem tw1748456618969930982 : True := trivial
theorem tw10265929125382437317 : True := trivial
theorem tw7658410731251134818 : True := trivial
theorem tw15064752311394979489 : True := trivial
theorem tw5506250874072839755 : True := trivial
theorem tw1852205218256702202 : True := trivial
theorem tw10533634037010066435 : True := trivial
theorem tw18051680202136193954 : True := trivial
theorem tw930087139818521243 : True := trivial
theorem tw7833285031277912329 : True := trivial
theorem tw10005452208157733855 : True := trivial
theorem tw16640130746408290383 : True := trivial
theorem tw2441957057352720082 : True := trivial
theorem tw18165431152234640623 : True := trivial
theorem tw4433315090154635215 : True := trivial
theorem tw4965378191221513410 : True := trivial
theorem tw15296082917334920728 : True := trivial
theorem tw16922147877168347812 : True := trivial
theorem tw10898857373019930491 : True := trivial
theorem tw7805308653706644653 : True := trivial
theorem tw12352672977532951062 : True := trivial
theorem tw733406405333840765 : True := trivial
theorem tw5725584637647431893 : True := trivial
theorem tw17332727794074296334 : True := trivial
theorem tw17821319399108415887 : True := trivial
theorem tw18096203060718853378 : True := trivial
theorem tw1832916270232011604 : True := trivial
theorem tw16847831306532103052 : True := trivial
theorem tw11426403942048686318 : True := trivial
theorem tw11296743742662292762 : True := trivial
theorem tw17552560543380974038 : True := trivial
theorem tw11338825007792423415 : True := trivial
theorem tw16984083398119652359 : True := trivial
theorem tw14667470093908496907 : True := trivial
theorem tw3405375401864073989 : True := trivial
theorem tw12601080634535202701 : True := trivial
theorem tw2004296183926418032 : True := trivial
theorem tw8773370040425892893 : True := trivial
theorem tw3556061257289618393 : True := trivial
theorem tw12870424476946447624 : True := trivial
theorem tw13653928888864918839 : True := trivial
theorem tw4693820183103290663 : True := trivial
theorem tw5906749814970224870 : True := trivial
theorem tw7013799640231393816 : True := trivial
theorem tw14956133685725647455 : True := trivial
theorem tw12147184966966947637 : True := trivial
theorem tw13379354915994877463 : True := trivial
theorem tw2393098407364606883 : True := trivial
theorem tw573967197379146972 : True := trivial
theorem tw10470577562921762397 : True := trivial
theorem tw12043669396524033845 : True := trivial
theorem tw4691952243595246448 : True := trivial
theorem tw9777900189565919194 : True := trivial
theorem tw4483413254912295219 : True := trivial
theorem tw17348764703882912863 : True := trivial
theorem tw44622916816846810 : True := trivial
theorem tw2825341998796452840 : True := trivial
theorem tw5346772772824661884 : True := trivial
theorem tw8541356943393881859 : True := trivial
theorem tw15271745096719814637 : True := trivial
theorem tw11544532188706048022 : True := trivial
theorem tw10018764681926925449 : True := trivial
theorem tw18123143868385100064 : True := trivial
theorem tw16894197260953374720 : True := trivial
theorem tw9464831228461672588 : True := trivial
theorem tw6110071263904590700 : True := trivial
theorem tw4708111749353345164 : True := trivial
theorem tw9074772780463953568 : True := trivial
theorem tw7287109101882759415 : True := trivial
theorem tw9083612298779875492 : True := trivial
theorem tw17056219185321658569 : True := trivial
theorem tw3991279037241028524 : True := trivial
theorem tw8866670633112419022 : True := trivial
theorem tw9702098958229961203 : True := trivial
theorem tw1689142752476645926 : True := trivial
theorem tw8715499118904818895 : True := trivial
theorem tw8216834362191484069 : True := trivial
theorem tw1875919508020622890 : True := trivial
theorem tw12397968759161991312 : True := trivial
theorem tw15509422312611206017 : True := trivial
theorem tw18080951475816111786 : True := trivial
theorem tw12822298378996975857 : True := trivial
theorem tw17486074103640542121 : True := trivial
theorem tw9214367901419015226 : True := trivial
theorem tw2581250870941146908 : True := trivial
theorem tw16714887947964762639 : True := trivial
theorem tw1729498619401302055 : True := trivial
theorem tw4063747431996464497 : True := trivial
theorem tw2554682012703037696 : True := trivial
theorem tw3500380475922496097 : True := trivial
theorem tw7704315382344345624 : True := trivial
theorem tw13078646160514809887 : True := trivial
theorem tw9186546921256032858 : True := trivial
theorem tw10021064610941686981 : True := trivial
theorem tw7313386461004707312 : True := trivial
theorem tw17464823870196871000 : True := trivial
theorem tw4430834163430979937 : True := trivial
theorem tw5515381820778694223 : True := trivial
theorem tw7277520189549225825 : True := trivial
theorem tw15501141472565082077 : True := trivial
theorem tw10261356005730403935 : True := trivial
theorem tw12741294794224977040 : True := trivial
theorem tw17789423225533864492 : True := trivial
theorem tw13906610036690215845 : True := trivial
theorem tw16997897962222511 : True := trivial
theorem tw2350586252961548244 : True := trivial
theorem tw15035418422258542911 : True := trivial
theorem tw16172288393029767808 : True := trivial
theorem tw15735840784391694233 : True := trivial
theorem tw16106133796442146334 : True := trivial
theorem tw6846866878297920324 : True := trivial
theorem tw3696042808614700290 : True := trivial
theorem tw693309671712327132 : True := trivial
theorem tw17142359554024780413 : True := trivial
theorem tw8549075639274686408 : True := trivial
theorem tw1985537357303476512 : True := trivial
theorem tw12740806245664736207 : True := trivial
theorem tw6426539377367359892 : True := trivial
theorem tw2525317073905713282 : True := trivial
theorem tw13357441389134331599 : True := trivial
theorem tw13605870324054321959 : True := trivial
theorem tw1714602735852981970 : True := trivial
theorem tw17525636777796739105 : True := trivial
theorem tw2876011056497122456 : True := trivial
theorem tw12364624919760631829 : True := trivial
theorem tw5353729903917744248 : True := trivial
theorem tw12095829319087573521 : True := trivial
theorem tw9449176361245260279 : True := trivial
theorem tw6684681932595197013 : True := trivial
theorem tw5651425540991249520 : True := trivial
theorem tw10356212845559719233 : True := trivial
theorem tw11770459041652445329 : True := trivial
theorem tw467416434755642258 : True := trivial
theorem tw3581614266968435656 : True := trivial
theorem tw1134157569726261602 : True := trivial
theorem tw4053978428183960486 : True := trivial
theorem tw2591067827882107080 : True := trivial
theorem tw5438144065070405397 : True := trivial
theorem tw4885112425497105109 : True := trivial
theorem tw604627371996746742 : True := trivial
theorem tw3089916443595474862 : True := trivial
theorem tw2096541523181747872 : True := trivial
theorem tw2864405669816312776 : True := trivial
theorem tw13801937863458859944 : True := trivial
theorem tw6298033893332097587 : True := trivial
theorem tw8950289647991515567 : True := trivial
theorem tw3973953319845086491 : True := trivial
theorem tw14909605222495392915 : True := trivial
theorem tw14531177953140590962 : True := trivial
theorem tw15305915472762889579 : True := trivial
theorem tw12775505166333009402 : True := trivial
theorem tw10634623117349058814 : True := trivial
theorem tw2994366008111725845 : True := trivial
theorem tw14969385696402013904 : True := trivial
theorem tw7404141018258913797 : True := trivial
theorem tw7599496313472250701 : True := trivial
theorem tw4009957668330374740 : True := trivial
theorem tw5015311536963163689 : True := trivial
theorem tw14699528089545365996 : True := trivial
theorem tw12182850187970735909 : True := trivial
theorem tw14615432700455777464 : True := trivial
theorem tw140066278072042493 : True := trivial
theorem tw5140934472235413692 : True := trivial
theorem tw7523532297153676066 : True := trivial
theorem tw17854896373637125580 : True := trivial
theorem tw2172669909848549399 : True := trivial
theorem tw13352761003364037465 : True := trivial
theorem tw9746458257258439470 : True := trivial
theorem tw18260194641540637818 : True := trivial
theorem tw2694075680205673411 : True := trivial
theorem tw4381510469713062047 : True := trivial
theorem tw18176413224385145225 : True := trivial
theorem tw8185714761375850791 : True := trivial
theorem tw16903022960794457021 : True := trivial
theorem tw1499353310998574721 : True := trivial
theorem tw2753283235347674219 : True := trivial
theorem tw12205659690895024086 : True := trivial
theorem tw7928285938522686346 : True := trivial
theorem tw4976181008148175253 : True := trivial
theorem tw12865059321931465230 : True := trivial
theorem tw4017301010375394790 : True := trivial
theorem tw10010264046613662565 : True := trivial
theorem tw4834694072379752904 : True := trivial
theorem tw12998212659555988865 : True := trivial
theorem tw14061139507663348314 : True := trivial
theorem tw2879759524354350568 : True := trivial
theorem tw5096742575497195690 : True := trivial
theorem tw5092371620264689978 : True := trivial
theorem tw15468718075485040107 : True := trivial
theorem tw4945251732147069371 : True := trivial
theorem tw1224924573807776437 : True := trivial
theorem tw4235852798576303577 : True := trivial
theorem tw1642545813376747948 : True := trivial
theorem tw13689084217373910675 : True := trivial
theorem tw15112835437128306455 : True := trivial
theorem tw9325123708862168440 : True := trivial
theorem tw10987702880554017565 : True := trivial
theorem tw16138378287714980278 : True := trivial
theorem tw3869590956505411354 : True := trivial
theorem tw13295082483830516422 : True := trivial
theorem tw7512725033676591148 : True := trivial
theorem tw1062042127530464391 : True := trivial
theorem tw709382114072422158 : True := trivial
theorem tw7506892168612780884 : True := trivial
theorem tw5401097623525119610 : True := trivial
theorem tw1858285994304674589 : True := trivial
theorem tw3185377453876500656 : True := trivial
theorem tw12201952087667049370 : True := trivial
theorem tw15638870477510070732 : True := trivial
theorem tw17826015225549371706 : True := trivial
theorem tw9280153536138602973 : True := trivial
theorem tw7789450098604059249 : True := trivial
theorem tw3794523003379204399 : True := trivial
theorem tw8402328212356670530 : True := trivial
theorem tw10242447542790323104 : True := trivial
theorem tw12841863872788715202 : True := trivial
theorem tw6521490308693473283 : True := trivial
theorem tw7096138990903361605 : True := trivial
theorem tw6587087628758450585 : True := trivial
theorem tw8796753266530204203 : True := trivial
theorem tw7417405269818204032 : True := trivial
theorem tw6212921109956642855 : True := trivial
theorem tw8299393411229908732 : True := trivial
theorem tw11862927689305589065 : True := trivial
theorem tw12344544660321961925 : True := trivial
theorem tw17017319662998615 : True := trivial
theorem tw11194998557105285118 : True := trivial
theorem tw17850378814381688901 : True := trivial
theorem tw12472887615940459650 : True := trivial
theorem tw5479459121986351116 : True := trivial
theorem tw16659920880120507502 : True := trivial
theorem tw12949380547846470161 : True := trivial
theorem tw13986843968525588388 : True := trivial
theorem tw780477332936465449 : True := trivial
theorem tw3665506230870052707 : True := trivial
theorem tw16441004959143088680 : True := trivial
theorem tw8895791426145780158 : True := trivial
theorem tw9631839687265896505 : True := trivial
theorem tw3512634313551410195 : True := trivial
theorem tw13086575352542018947 : True := trivial
theorem tw7876399200375917224 : True := trivial
theorem tw15604011560834605598 : True := trivial
theorem tw9101448428047585222 : True := trivial
theorem tw18107965910218704751 : True := trivial
theorem tw17958272820484234708 : True := trivial
theorem tw12274188130655085128 : True := trivial
theorem tw15037083628117588352 : True := trivial
theorem tw1389810093214676884 : True := trivial
theorem tw10170068340998493759 : True := trivial
theorem tw66618190712790079 : True := trivial
theorem tw2529948359932261575 : True := trivial
theorem tw13213268828098156179 : True := trivial
theorem tw4415685298772064003 : True := trivial
theorem tw12328230846540189838 : True := trivial
theorem tw1276956409769668328 : True := trivial
theorem tw17905491414393134947 : True := trivial
theorem tw15506723302920939300 : True := trivial
theorem tw8187629637223713605 : True := trivial
theorem tw7090939061502383884 : True := trivial
theorem tw5111174896325423537 : True := trivial
theorem tw1917425121527220963 : True := trivial
theorem tw17265401458761052179 : True := trivial
theorem tw9133290819911140118 : True := trivial
theorem tw1506576300011279404 : True := trivial
theorem tw9987851973559822609 : True := trivial
theorem tw2797894973233656403 : True := trivial
theorem tw5143670084557414638 : True := trivial
theorem tw5996384718915585738 : True := trivial
theorem tw11180365069992382532 : True := trivial
theorem tw6121141971511671821 : True := trivial
theorem tw16871623187472473471 : True := trivial
theorem tw12032222614953749359 : True := trivial
theorem tw1463646239528298992 : True := trivial
theorem tw9743709737119245314 : True := trivial
theorem tw4607607821588926596 : True := trivial
theorem tw15796087645652482245 : True := trivial
theorem tw8627200689577751383 : True := trivial
theorem tw3547030090768783262 : True := trivial
theorem tw5797013207949663412 : True := trivial
theorem tw11714945338242495837 : True := trivial
theorem tw15253846138512369154 : True := trivial
theorem tw12851702773856589430 : True := trivial
theorem tw9325057278558614444 : True := trivial
theorem tw1673358830478937286 : True := trivial
theorem tw17988201657351507238 : True := trivial
theorem tw8382746154173761051 : True := trivial
theorem tw17700853532424174462 : True := trivial
theorem tw9196398404247428943 : True := trivial
theorem tw2518057956044344595 : True := trivial
theorem tw7688317290187622652 : True := trivial
theorem tw14842460003800876886 : True := trivial
theorem tw3062044705579621278 : True := trivial
theorem tw16782820856776367440 : True := trivial
theorem tw10900948863051656163 : True := trivial
theorem tw7661765248129044261 : True := trivial
theorem tw6772502638888315869 : True := trivial
theorem tw13353151263460963528 : True := trivial
theorem tw9160574493746932947 : True := trivial
theorem tw11097941207591946120 : True := trivial
theorem tw10748227973586771634 : True := trivial
theorem tw13988103294471073821 : True := trivial
theorem tw739537129135343663 : True := trivial
theorem tw9145527808636388435 : True := trivial
theorem tw9380374249521086144 : True := trivial
theorem tw15149402430504572791 : True := trivial
theorem tw8408249889716310983 : True := trivial
theorem tw14393718171448925343 : True := trivial
theorem tw1909714482019496454 : True := trivial
theorem tw7758381527925395934 : True := trivial
theorem tw13510609219080548989 : True := trivial
theorem tw5319049981483164881 : True := trivial
theorem tw11124748197601291601 : True := trivial
theorem tw10875119458065257276 : True := trivial
theorem tw14432977821161478157 : True := trivial
theorem tw14385403278947933607 : True := trivial
theorem tw14492117785962260688 : True := trivial
theorem tw1522823579158628613 : True := trivial
theorem tw5363715690607933 : True := trivial
theorem tw1626232751844553403 : True := trivial
theorem tw1519320592345488741 : True := trivial
theorem tw5274623360512300857 : True := trivial
theorem tw8409189969818401543 : True := trivial
theorem tw8988664977312594650 : True := trivial
theorem tw7119846925741900413 : True := trivial
theorem tw5593727005144783397 : True := trivial
theorem tw8414573866900348196 : True := trivial
theorem tw5487235932777146282 : True := trivial
theorem tw15656768269340197940 : True := trivial
theorem tw7731663087784701926 : True := trivial
theorem tw4311042196063409733 : True := trivial
theorem tw2400818531096893172 : True := trivial
theorem tw2260579728952749127 : True := trivial
theorem tw17362218986543327160 : True := trivial
theorem tw10786079294511566085 : True := trivial
theorem tw14646466228836335164 : True := trivial
theorem tw6737735255597943219 : True := trivial
theorem tw9202431907968578930 : True := trivial
theorem tw7498250532897285284 : True := trivial
theorem tw5467695095851852608 : True := trivial
theorem tw5973763720392745831 : True := trivial
theorem tw5638995163158488052 : True := trivial
theorem tw4023466491090337370 : True := trivial
theorem tw15326552575505426906 : True := trivial
theorem tw10865165270600546614 : True := trivial
theorem tw6640010369347007910 : True := trivial
theorem tw13199516396595161752 : True := trivial
theorem tw3264716943610762504 : True := trivial
theorem tw5104563664521345299 : True := trivial
theorem tw13180129090757240718 : True := trivial
theorem tw807142644699662319 : True := trivial
theorem tw17243387458012846398 : True := trivial
theorem tw6240353410654795137 : True := trivial
theorem tw14643560169476415855 : True := trivial
theorem tw9713792968359784470 : True := trivial
theorem tw16480655549716848640 : True := trivial
theorem tw4988595096358099897 : True := trivial
end head
set_option Elab.async true in
theorem head : PySem.Challenge.rw_pb0273_01.Holds := by
  w_on; o_law; o_head (kHook hdK asK hdE)
  (case hw => w_witness2)
  exact walk
end Mine
set_option Elab.async true in
theorem PySem.Challenge.cw_pb0273_01_holds : PySem.Challenge.rw_pb0273_01.Holds :=
  Mine.head
