import PyProof.Rows.All
import Wide.All
import OpenK.AllK
import Wide.FinOn
import Lean
import PySem.Challenge.RW_on0348_01
set_option Elab.async false
set_option linter.all false
set_option compiler.extract_closed false
set_option genInjectivity false
set_option genSizeOf false
set_option genSizeOfSpec false
section PartHdA
open PySem PySem.W PyProof.Rows
set_option Elab.async false
set_option maxRecDepth 100000
set_option maxHeartbeats 8000000
namespace Mine
noncomputable def stAt (l : List Stmt) (i : Nat) : Stmt := l.getD i (.Pass ⟨0, 0, 0, 0⟩)
noncomputable def fB : Stmt → List Stmt
  | .FunctionDef _ _ b _ _ _ _ _ _ _ => b
  | _ => []
noncomputable def fA : Stmt → Arguments
  | .FunctionDef _ a _ _ _ _ _ _ _ _ => a
  | _ => ⟨[], [], none, [], [], none, []⟩
noncomputable def fS : Stmt → Scope
  | .FunctionDef _ _ _ _ _ _ s _ _ _ => s
  | _ => default
noncomputable def cB : Stmt → List Stmt
  | .ClassDef _ _ _ b _ _ _ _ _ _ _ => b
  | _ => []
noncomputable def pwB : List Stmt := PySem.Challenge.pw_on0348_01.main.body
noncomputable def b35P : {l : List Stmt // fB (stAt (cB (stAt pwB 3)) 0) = l} := ⟨_, by conv => { lhs; whnf }⟩
noncomputable def a35P : {l : Arguments // fA (stAt (cB (stAt pwB 3)) 0) = l} := ⟨_, by conv => { lhs; whnf }⟩
noncomputable def s35P : {l : Scope // fS (stAt (cB (stAt pwB 3)) 0) = l} := ⟨_, by conv => { lhs; whnf }⟩
noncomputable def b43P : {l : List Stmt // fB (stAt (cB (stAt pwB 3)) 1) = l} := ⟨_, by conv => { lhs; whnf }⟩
noncomputable def a43P : {l : Arguments // fA (stAt (cB (stAt pwB 3)) 1) = l} := ⟨_, by conv => { lhs; whnf }⟩
noncomputable def s43P : {l : Scope // fS (stAt (cB (stAt pwB 3)) 1) = l} := ⟨_, by conv => { lhs; whnf }⟩
noncomputable def b50P : {l : List Stmt // fB (stAt (cB (stAt pwB 3)) 2) = l} := ⟨_, by conv => { lhs; whnf }⟩
noncomputable def a50P : {l : Arguments // fA (stAt (cB (stAt pwB 3)) 2) = l} := ⟨_, by conv => { lhs; whnf }⟩
noncomputable def s50P : {l : Scope // fS (stAt (cB (stAt pwB 3)) 2) = l} := ⟨_, by conv => { lhs; whnf }⟩
noncomputable def b57P : {l : List Stmt // fB (stAt (cB (stAt pwB 3)) 3) = l} := ⟨_, by conv => { lhs; whnf }⟩
noncomputable def a57P : {l : Arguments // fA (stAt (cB (stAt pwB 3)) 3) = l} := ⟨_, by conv => { lhs; whnf }⟩
noncomputable def s57P : {l : Scope // fS (stAt (cB (stAt pwB 3)) 3) = l} := ⟨_, by conv => { lhs; whnf }⟩
noncomputable def b64P : {l : List Stmt // fB (stAt (cB (stAt pwB 3)) 4) = l} := ⟨_, by conv => { lhs; whnf }⟩
noncomputable def a64P : {l : Arguments // fA (stAt (cB (stAt pwB 3)) 4) = l} := ⟨_, by conv => { lhs; whnf }⟩
noncomputable def s64P : {l : Scope // fS (stAt (cB (stAt pwB 3)) 4) = l} := ⟨_, by conv => { lhs; whnf }⟩
noncomputable def b92P : {l : List Stmt // fB (stAt (cB (stAt pwB 5)) 0) = l} := ⟨_, by conv => { lhs; whnf }⟩
noncomputable def a92P : {l : Arguments // fA (stAt (cB (stAt pwB 5)) 0) = l} := ⟨_, by conv => { lhs; whnf }⟩
noncomputable def s92P : {l : Scope // fS (stAt (cB (stAt pwB 5)) 0) = l} := ⟨_, by conv => { lhs; whnf }⟩
noncomputable def b169P : {l : List Stmt // fB (stAt pwB 7) = l} := ⟨_, by conv => { lhs; whnf }⟩
noncomputable def a169P : {l : Arguments // fA (stAt pwB 7) = l} := ⟨_, by conv => { lhs; whnf }⟩
noncomputable def s169P : {l : Scope // fS (stAt pwB 7) = l} := ⟨_, by conv => { lhs; whnf }⟩
noncomputable def b176P : {l : List Stmt // fB (stAt pwB 8) = l} := ⟨_, by conv => { lhs; whnf }⟩
noncomputable def a176P : {l : Arguments // fA (stAt pwB 8) = l} := ⟨_, by conv => { lhs; whnf }⟩
noncomputable def s176P : {l : Scope // fS (stAt pwB 8) = l} := ⟨_, by conv => { lhs; whnf }⟩
noncomputable def b183P : {l : List Stmt // fB (stAt pwB 9) = l} := ⟨_, by conv => { lhs; whnf }⟩
noncomputable def a183P : {l : Arguments // fA (stAt pwB 9) = l} := ⟨_, by conv => { lhs; whnf }⟩
noncomputable def s183P : {l : Scope // fS (stAt pwB 9) = l} := ⟨_, by conv => { lhs; whnf }⟩
noncomputable def b190P : {l : List Stmt // fB (stAt pwB 10) = l} := ⟨_, by conv => { lhs; whnf }⟩
noncomputable def a190P : {l : Arguments // fA (stAt pwB 10) = l} := ⟨_, by conv => { lhs; whnf }⟩
noncomputable def s190P : {l : Scope // fS (stAt pwB 10) = l} := ⟨_, by conv => { lhs; whnf }⟩
noncomputable def b211P : {l : List Stmt // fB (stAt (cB (stAt pwB 14)) 0) = l} := ⟨_, by conv => { lhs; whnf }⟩
noncomputable def a211P : {l : Arguments // fA (stAt (cB (stAt pwB 14)) 0) = l} := ⟨_, by conv => { lhs; whnf }⟩
noncomputable def s211P : {l : Scope // fS (stAt (cB (stAt pwB 14)) 0) = l} := ⟨_, by conv => { lhs; whnf }⟩
noncomputable def b246P : {l : List Stmt // fB (stAt (cB (stAt pwB 14)) 5) = l} := ⟨_, by conv => { lhs; whnf }⟩
noncomputable def a246P : {l : Arguments // fA (stAt (cB (stAt pwB 14)) 5) = l} := ⟨_, by conv => { lhs; whnf }⟩
noncomputable def s246P : {l : Scope // fS (stAt (cB (stAt pwB 14)) 5) = l} := ⟨_, by conv => { lhs; whnf }⟩
noncomputable def b260P : {l : List Stmt // fB (stAt (cB (stAt pwB 14)) 7) = l} := ⟨_, by conv => { lhs; whnf }⟩
noncomputable def a260P : {l : Arguments // fA (stAt (cB (stAt pwB 14)) 7) = l} := ⟨_, by conv => { lhs; whnf }⟩
noncomputable def s260P : {l : Scope // fS (stAt (cB (stAt pwB 14)) 7) = l} := ⟨_, by conv => { lhs; whnf }⟩
noncomputable def b288P : {l : List Stmt // fB (stAt (cB (stAt pwB 16)) 0) = l} := ⟨_, by conv => { lhs; whnf }⟩
noncomputable def a288P : {l : Arguments // fA (stAt (cB (stAt pwB 16)) 0) = l} := ⟨_, by conv => { lhs; whnf }⟩
noncomputable def s288P : {l : Scope // fS (stAt (cB (stAt pwB 16)) 0) = l} := ⟨_, by conv => { lhs; whnf }⟩
noncomputable def b309P : {l : List Stmt // fB (stAt (cB (stAt pwB 16)) 3) = l} := ⟨_, by conv => { lhs; whnf }⟩
noncomputable def a309P : {l : Arguments // fA (stAt (cB (stAt pwB 16)) 3) = l} := ⟨_, by conv => { lhs; whnf }⟩
noncomputable def s309P : {l : Scope // fS (stAt (cB (stAt pwB 16)) 3) = l} := ⟨_, by conv => { lhs; whnf }⟩
noncomputable def b316P : {l : List Stmt // fB (stAt (cB (stAt pwB 16)) 4) = l} := ⟨_, by conv => { lhs; whnf }⟩
noncomputable def a316P : {l : Arguments // fA (stAt (cB (stAt pwB 16)) 4) = l} := ⟨_, by conv => { lhs; whnf }⟩
noncomputable def s316P : {l : Scope // fS (stAt (cB (stAt pwB 16)) 4) = l} := ⟨_, by conv => { lhs; whnf }⟩
noncomputable def b323P : {l : List Stmt // fB (stAt (cB (stAt pwB 16)) 5) = l} := ⟨_, by conv => { lhs; whnf }⟩
noncomputable def a323P : {l : Arguments // fA (stAt (cB (stAt pwB 16)) 5) = l} := ⟨_, by conv => { lhs; whnf }⟩
noncomputable def s323P : {l : Scope // fS (stAt (cB (stAt pwB 16)) 5) = l} := ⟨_, by conv => { lhs; whnf }⟩
noncomputable def b388P : {l : List Stmt // fB (stAt (cB (stAt pwB 22)) 0) = l} := ⟨_, by conv => { lhs; whnf }⟩
noncomputable def a388P : {l : Arguments // fA (stAt (cB (stAt pwB 22)) 0) = l} := ⟨_, by conv => { lhs; whnf }⟩
noncomputable def s388P : {l : Scope // fS (stAt (cB (stAt pwB 22)) 0) = l} := ⟨_, by conv => { lhs; whnf }⟩
noncomputable def b444P : {l : List Stmt // fB (stAt (cB (stAt pwB 24)) 0) = l} := ⟨_, by conv => { lhs; whnf }⟩
noncomputable def a444P : {l : Arguments // fA (stAt (cB (stAt pwB 24)) 0) = l} := ⟨_, by conv => { lhs; whnf }⟩
noncomputable def s444P : {l : Scope // fS (stAt (cB (stAt pwB 24)) 0) = l} := ⟨_, by conv => { lhs; whnf }⟩
noncomputable def b479P : {l : List Stmt // fB (stAt (cB (stAt pwB 25)) 0) = l} := ⟨_, by conv => { lhs; whnf }⟩
noncomputable def a479P : {l : Arguments // fA (stAt (cB (stAt pwB 25)) 0) = l} := ⟨_, by conv => { lhs; whnf }⟩
noncomputable def s479P : {l : Scope // fS (stAt (cB (stAt pwB 25)) 0) = l} := ⟨_, by conv => { lhs; whnf }⟩
noncomputable def b663P : {l : List Stmt // fB (stAt pwB 27) = l} := ⟨_, by conv => { lhs; whnf }⟩
noncomputable def a663P : {l : Arguments // fA (stAt pwB 27) = l} := ⟨_, by conv => { lhs; whnf }⟩
noncomputable def s663P : {l : Scope // fS (stAt pwB 27) = l} := ⟨_, by conv => { lhs; whnf }⟩
noncomputable def b678P : {l : List Stmt // fB (stAt (cB (stAt pwB 33)) 0) = l} := ⟨_, by conv => { lhs; whnf }⟩
noncomputable def a678P : {l : Arguments // fA (stAt (cB (stAt pwB 33)) 0) = l} := ⟨_, by conv => { lhs; whnf }⟩
noncomputable def s678P : {l : Scope // fS (stAt (cB (stAt pwB 33)) 0) = l} := ⟨_, by conv => { lhs; whnf }⟩
noncomputable def b713P : {l : List Stmt // fB (stAt pwB 34) = l} := ⟨_, by conv => { lhs; whnf }⟩
noncomputable def a713P : {l : Arguments // fA (stAt pwB 34) = l} := ⟨_, by conv => { lhs; whnf }⟩
noncomputable def s713P : {l : Scope // fS (stAt pwB 34) = l} := ⟨_, by conv => { lhs; whnf }⟩
noncomputable def b720P : {l : List Stmt // fB (stAt pwB 35) = l} := ⟨_, by conv => { lhs; whnf }⟩
noncomputable def a720P : {l : Arguments // fA (stAt pwB 35) = l} := ⟨_, by conv => { lhs; whnf }⟩
noncomputable def s720P : {l : Scope // fS (stAt pwB 35) = l} := ⟨_, by conv => { lhs; whnf }⟩
noncomputable def b733P : {l : List Stmt // fB (stAt (cB (stAt pwB 38)) 0) = l} := ⟨_, by conv => { lhs; whnf }⟩
noncomputable def a733P : {l : Arguments // fA (stAt (cB (stAt pwB 38)) 0) = l} := ⟨_, by conv => { lhs; whnf }⟩
noncomputable def s733P : {l : Scope // fS (stAt (cB (stAt pwB 38)) 0) = l} := ⟨_, by conv => { lhs; whnf }⟩
noncomputable def b740P : {l : List Stmt // fB (stAt (cB (stAt pwB 38)) 1) = l} := ⟨_, by conv => { lhs; whnf }⟩
noncomputable def a740P : {l : Arguments // fA (stAt (cB (stAt pwB 38)) 1) = l} := ⟨_, by conv => { lhs; whnf }⟩
noncomputable def s740P : {l : Scope // fS (stAt (cB (stAt pwB 38)) 1) = l} := ⟨_, by conv => { lhs; whnf }⟩
noncomputable def b747P : {l : List Stmt // fB (stAt (cB (stAt pwB 38)) 2) = l} := ⟨_, by conv => { lhs; whnf }⟩
noncomputable def a747P : {l : Arguments // fA (stAt (cB (stAt pwB 38)) 2) = l} := ⟨_, by conv => { lhs; whnf }⟩
noncomputable def s747P : {l : Scope // fS (stAt (cB (stAt pwB 38)) 2) = l} := ⟨_, by conv => { lhs; whnf }⟩
noncomputable def b754P : {l : List Stmt // fB (stAt (cB (stAt pwB 38)) 3) = l} := ⟨_, by conv => { lhs; whnf }⟩
noncomputable def a754P : {l : Arguments // fA (stAt (cB (stAt pwB 38)) 3) = l} := ⟨_, by conv => { lhs; whnf }⟩
noncomputable def s754P : {l : Scope // fS (stAt (cB (stAt pwB 38)) 3) = l} := ⟨_, by conv => { lhs; whnf }⟩
noncomputable def b761P : {l : List Stmt // fB (stAt (cB (stAt pwB 38)) 4) = l} := ⟨_, by conv => { lhs; whnf }⟩
noncomputable def a761P : {l : Arguments // fA (stAt (cB (stAt pwB 38)) 4) = l} := ⟨_, by conv => { lhs; whnf }⟩
noncomputable def s761P : {l : Scope // fS (stAt (cB (stAt pwB 38)) 4) = l} := ⟨_, by conv => { lhs; whnf }⟩
noncomputable def b801P : {l : List Stmt // fB (stAt (cB (stAt pwB 42)) 0) = l} := ⟨_, by conv => { lhs; whnf }⟩
noncomputable def a801P : {l : Arguments // fA (stAt (cB (stAt pwB 42)) 0) = l} := ⟨_, by conv => { lhs; whnf }⟩
noncomputable def s801P : {l : Scope // fS (stAt (cB (stAt pwB 42)) 0) = l} := ⟨_, by conv => { lhs; whnf }⟩
noncomputable def b815P : {l : List Stmt // fB (stAt pwB 43) = l} := ⟨_, by conv => { lhs; whnf }⟩
noncomputable def a815P : {l : Arguments // fA (stAt pwB 43) = l} := ⟨_, by conv => { lhs; whnf }⟩
noncomputable def s815P : {l : Scope // fS (stAt pwB 43) = l} := ⟨_, by conv => { lhs; whnf }⟩
noncomputable def b829P : {l : List Stmt // fB (stAt (cB (stAt pwB 44)) 0) = l} := ⟨_, by conv => { lhs; whnf }⟩
noncomputable def a829P : {l : Arguments // fA (stAt (cB (stAt pwB 44)) 0) = l} := ⟨_, by conv => { lhs; whnf }⟩
noncomputable def s829P : {l : Scope // fS (stAt (cB (stAt pwB 44)) 0) = l} := ⟨_, by conv => { lhs; whnf }⟩
noncomputable def b836P : {l : List Stmt // fB (stAt (cB (stAt pwB 44)) 1) = l} := ⟨_, by conv => { lhs; whnf }⟩
noncomputable def a836P : {l : Arguments // fA (stAt (cB (stAt pwB 44)) 1) = l} := ⟨_, by conv => { lhs; whnf }⟩
noncomputable def s836P : {l : Scope // fS (stAt (cB (stAt pwB 44)) 1) = l} := ⟨_, by conv => { lhs; whnf }⟩
noncomputable def b844P : {l : List Stmt // fB (stAt (cB (stAt pwB 44)) 2) = l} := ⟨_, by conv => { lhs; whnf }⟩
noncomputable def a844P : {l : Arguments // fA (stAt (cB (stAt pwB 44)) 2) = l} := ⟨_, by conv => { lhs; whnf }⟩
noncomputable def s844P : {l : Scope // fS (stAt (cB (stAt pwB 44)) 2) = l} := ⟨_, by conv => { lhs; whnf }⟩
noncomputable def b865P : {l : List Stmt // fB (stAt (cB (stAt pwB 46)) 0) = l} := ⟨_, by conv => { lhs; whnf }⟩
noncomputable def a865P : {l : Arguments // fA (stAt (cB (stAt pwB 46)) 0) = l} := ⟨_, by conv => { lhs; whnf }⟩
noncomputable def s865P : {l : Scope // fS (stAt (cB (stAt pwB 46)) 0) = l} := ⟨_, by conv => { lhs; whnf }⟩
noncomputable def b884P : {l : List Stmt // fB (stAt (cB (stAt pwB 46)) 3) = l} := ⟨_, by conv => { lhs; whnf }⟩
noncomputable def a884P : {l : Arguments // fA (stAt (cB (stAt pwB 46)) 3) = l} := ⟨_, by conv => { lhs; whnf }⟩
noncomputable def s884P : {l : Scope // fS (stAt (cB (stAt pwB 46)) 3) = l} := ⟨_, by conv => { lhs; whnf }⟩
noncomputable def b891P : {l : List Stmt // fB (stAt (cB (stAt pwB 46)) 4) = l} := ⟨_, by conv => { lhs; whnf }⟩
noncomputable def a891P : {l : Arguments // fA (stAt (cB (stAt pwB 46)) 4) = l} := ⟨_, by conv => { lhs; whnf }⟩
noncomputable def s891P : {l : Scope // fS (stAt (cB (stAt pwB 46)) 4) = l} := ⟨_, by conv => { lhs; whnf }⟩
noncomputable def b898P : {l : List Stmt // fB (stAt (cB (stAt pwB 46)) 5) = l} := ⟨_, by conv => { lhs; whnf }⟩
noncomputable def a898P : {l : Arguments // fA (stAt (cB (stAt pwB 46)) 5) = l} := ⟨_, by conv => { lhs; whnf }⟩
noncomputable def s898P : {l : Scope // fS (stAt (cB (stAt pwB 46)) 5) = l} := ⟨_, by conv => { lhs; whnf }⟩
noncomputable def b905P : {l : List Stmt // fB (stAt (cB (stAt pwB 46)) 6) = l} := ⟨_, by conv => { lhs; whnf }⟩
noncomputable def a905P : {l : Arguments // fA (stAt (cB (stAt pwB 46)) 6) = l} := ⟨_, by conv => { lhs; whnf }⟩
noncomputable def s905P : {l : Scope // fS (stAt (cB (stAt pwB 46)) 6) = l} := ⟨_, by conv => { lhs; whnf }⟩
noncomputable def b912P : {l : List Stmt // fB (stAt (cB (stAt pwB 46)) 7) = l} := ⟨_, by conv => { lhs; whnf }⟩
noncomputable def a912P : {l : Arguments // fA (stAt (cB (stAt pwB 46)) 7) = l} := ⟨_, by conv => { lhs; whnf }⟩
noncomputable def s912P : {l : Scope // fS (stAt (cB (stAt pwB 46)) 7) = l} := ⟨_, by conv => { lhs; whnf }⟩
noncomputable def b919P : {l : List Stmt // fB (stAt (cB (stAt pwB 46)) 8) = l} := ⟨_, by conv => { lhs; whnf }⟩
noncomputable def a919P : {l : Arguments // fA (stAt (cB (stAt pwB 46)) 8) = l} := ⟨_, by conv => { lhs; whnf }⟩
noncomputable def s919P : {l : Scope // fS (stAt (cB (stAt pwB 46)) 8) = l} := ⟨_, by conv => { lhs; whnf }⟩
noncomputable def b926P : {l : List Stmt // fB (stAt (cB (stAt pwB 46)) 9) = l} := ⟨_, by conv => { lhs; whnf }⟩
noncomputable def a926P : {l : Arguments // fA (stAt (cB (stAt pwB 46)) 9) = l} := ⟨_, by conv => { lhs; whnf }⟩
noncomputable def s926P : {l : Scope // fS (stAt (cB (stAt pwB 46)) 9) = l} := ⟨_, by conv => { lhs; whnf }⟩
noncomputable def b962P : {l : List Stmt // fB (stAt (cB (stAt pwB 48)) 0) = l} := ⟨_, by conv => { lhs; whnf }⟩
noncomputable def a962P : {l : Arguments // fA (stAt (cB (stAt pwB 48)) 0) = l} := ⟨_, by conv => { lhs; whnf }⟩
noncomputable def s962P : {l : Scope // fS (stAt (cB (stAt pwB 48)) 0) = l} := ⟨_, by conv => { lhs; whnf }⟩
noncomputable def b969P : {l : List Stmt // fB (stAt (cB (stAt pwB 48)) 1) = l} := ⟨_, by conv => { lhs; whnf }⟩
noncomputable def a969P : {l : Arguments // fA (stAt (cB (stAt pwB 48)) 1) = l} := ⟨_, by conv => { lhs; whnf }⟩
noncomputable def s969P : {l : Scope // fS (stAt (cB (stAt pwB 48)) 1) = l} := ⟨_, by conv => { lhs; whnf }⟩
noncomputable def b976P : {l : List Stmt // fB (stAt (cB (stAt pwB 48)) 2) = l} := ⟨_, by conv => { lhs; whnf }⟩
noncomputable def a976P : {l : Arguments // fA (stAt (cB (stAt pwB 48)) 2) = l} := ⟨_, by conv => { lhs; whnf }⟩
noncomputable def s976P : {l : Scope // fS (stAt (cB (stAt pwB 48)) 2) = l} := ⟨_, by conv => { lhs; whnf }⟩
noncomputable def b983P : {l : List Stmt // fB (stAt (cB (stAt pwB 48)) 3) = l} := ⟨_, by conv => { lhs; whnf }⟩
noncomputable def a983P : {l : Arguments // fA (stAt (cB (stAt pwB 48)) 3) = l} := ⟨_, by conv => { lhs; whnf }⟩
noncomputable def s983P : {l : Scope // fS (stAt (cB (stAt pwB 48)) 3) = l} := ⟨_, by conv => { lhs; whnf }⟩
noncomputable def b990P : {l : List Stmt // fB (stAt (cB (stAt pwB 48)) 4) = l} := ⟨_, by conv => { lhs; whnf }⟩
noncomputable def a990P : {l : Arguments // fA (stAt (cB (stAt pwB 48)) 4) = l} := ⟨_, by conv => { lhs; whnf }⟩
noncomputable def s990P : {l : Scope // fS (stAt (cB (stAt pwB 48)) 4) = l} := ⟨_, by conv => { lhs; whnf }⟩
noncomputable def b997P : {l : List Stmt // fB (stAt (cB (stAt pwB 48)) 5) = l} := ⟨_, by conv => { lhs; whnf }⟩
noncomputable def a997P : {l : Arguments // fA (stAt (cB (stAt pwB 48)) 5) = l} := ⟨_, by conv => { lhs; whnf }⟩
noncomputable def s997P : {l : Scope // fS (stAt (cB (stAt pwB 48)) 5) = l} := ⟨_, by conv => { lhs; whnf }⟩
noncomputable def b1004P : {l : List Stmt // fB (stAt (cB (stAt pwB 48)) 6) = l} := ⟨_, by conv => { lhs; whnf }⟩
noncomputable def a1004P : {l : Arguments // fA (stAt (cB (stAt pwB 48)) 6) = l} := ⟨_, by conv => { lhs; whnf }⟩
noncomputable def s1004P : {l : Scope // fS (stAt (cB (stAt pwB 48)) 6) = l} := ⟨_, by conv => { lhs; whnf }⟩
noncomputable def b1025P : {l : List Stmt // fB (stAt (cB (stAt pwB 48)) 9) = l} := ⟨_, by conv => { lhs; whnf }⟩
noncomputable def a1025P : {l : Arguments // fA (stAt (cB (stAt pwB 48)) 9) = l} := ⟨_, by conv => { lhs; whnf }⟩
noncomputable def s1025P : {l : Scope // fS (stAt (cB (stAt pwB 48)) 9) = l} := ⟨_, by conv => { lhs; whnf }⟩
noncomputable def b1046P : {l : List Stmt // fB (stAt (cB (stAt pwB 48)) 12) = l} := ⟨_, by conv => { lhs; whnf }⟩
noncomputable def a1046P : {l : Arguments // fA (stAt (cB (stAt pwB 48)) 12) = l} := ⟨_, by conv => { lhs; whnf }⟩
noncomputable def s1046P : {l : Scope // fS (stAt (cB (stAt pwB 48)) 12) = l} := ⟨_, by conv => { lhs; whnf }⟩
noncomputable def b1088P : {l : List Stmt // fB (stAt pwB 50) = l} := ⟨_, by conv => { lhs; whnf }⟩
noncomputable def a1088P : {l : Arguments // fA (stAt pwB 50) = l} := ⟨_, by conv => { lhs; whnf }⟩
noncomputable def s1088P : {l : Scope // fS (stAt pwB 50) = l} := ⟨_, by conv => { lhs; whnf }⟩
noncomputable def b1095P : {l : List Stmt // fB (stAt pwB 51) = l} := ⟨_, by conv => { lhs; whnf }⟩
noncomputable def a1095P : {l : Arguments // fA (stAt pwB 51) = l} := ⟨_, by conv => { lhs; whnf }⟩
noncomputable def s1095P : {l : Scope // fS (stAt pwB 51) = l} := ⟨_, by conv => { lhs; whnf }⟩
noncomputable def b1102P : {l : List Stmt // fB (stAt pwB 52) = l} := ⟨_, by conv => { lhs; whnf }⟩
noncomputable def a1102P : {l : Arguments // fA (stAt pwB 52) = l} := ⟨_, by conv => { lhs; whnf }⟩
noncomputable def s1102P : {l : Scope // fS (stAt pwB 52) = l} := ⟨_, by conv => { lhs; whnf }⟩
noncomputable def b1109P : {l : List Stmt // fB (stAt pwB 53) = l} := ⟨_, by conv => { lhs; whnf }⟩
noncomputable def a1109P : {l : Arguments // fA (stAt pwB 53) = l} := ⟨_, by conv => { lhs; whnf }⟩
noncomputable def s1109P : {l : Scope // fS (stAt pwB 53) = l} := ⟨_, by conv => { lhs; whnf }⟩
noncomputable def b1116P : {l : List Stmt // fB (stAt pwB 54) = l} := ⟨_, by conv => { lhs; whnf }⟩
noncomputable def a1116P : {l : Arguments // fA (stAt pwB 54) = l} := ⟨_, by conv => { lhs; whnf }⟩
noncomputable def s1116P : {l : Scope // fS (stAt pwB 54) = l} := ⟨_, by conv => { lhs; whnf }⟩
noncomputable def b1123P : {l : List Stmt // fB (stAt pwB 55) = l} := ⟨_, by conv => { lhs; whnf }⟩
noncomputable def a1123P : {l : Arguments // fA (stAt pwB 55) = l} := ⟨_, by conv => { lhs; whnf }⟩
noncomputable def s1123P : {l : Scope // fS (stAt pwB 55) = l} := ⟨_, by conv => { lhs; whnf }⟩
noncomputable def b1130P : {l : List Stmt // fB (stAt pwB 56) = l} := ⟨_, by conv => { lhs; whnf }⟩
noncomputable def a1130P : {l : Arguments // fA (stAt pwB 56) = l} := ⟨_, by conv => { lhs; whnf }⟩
noncomputable def s1130P : {l : Scope // fS (stAt pwB 56) = l} := ⟨_, by conv => { lhs; whnf }⟩
noncomputable def b1137P : {l : List Stmt // fB (stAt pwB 57) = l} := ⟨_, by conv => { lhs; whnf }⟩
noncomputable def a1137P : {l : Arguments // fA (stAt pwB 57) = l} := ⟨_, by conv => { lhs; whnf }⟩
noncomputable def s1137P : {l : Scope // fS (stAt pwB 57) = l} := ⟨_, by conv => { lhs; whnf }⟩
noncomputable def o34 (P : Params) : Obj := ⟨(.type "code"), none, (.fields #[(.str (.ofString "__init__") 210), (.str (.ofString "AckPolicy.__init__") 211), (.str (.ofString "/claim/cut.py") 212), (.int (8) 0), (.int (2) 0), (.int (0) 0), (.int (0) 0), (.int (3) 0), (.ref 29), (.bool true), (.int (181) 0), (.ref 30), .none, (.ref 31), (.ref 32), (.ref 33), (.int (215) 0), (.int (8) 0), (.str (.ofString "/claim/cut.py") 216)]), #[]⟩
noncomputable def o35 (P : Params) : Obj := ⟨(.type "function"), none, (.func ⟨(.ofString "__init__"), (.ofString "AckPolicy.__init__"), a35P.1, .stmts b35P.1, s35P.1, 3, [], .none, .none, .none, (.str (.ofString "thinstack.acks") 194), none, (.ref 34), .none, 0⟩), #[]⟩
noncomputable def o36 (P : Params) : Obj := ⟨(.type "tuple"), none, (.seq #[(.bool false)] 0), #[]⟩
noncomputable def o42 (P : Params) : Obj := ⟨(.type "code"), none, (.fields #[(.str (.ofString "on_octets") 218), (.str (.ofString "AckPolicy.on_octets") 219), (.str (.ofString "/claim/cut.py") 220), (.int (14) 0), (.int (4) 0), (.int (0) 0), (.int (0) 0), (.int (3) 0), (.ref 37), (.bool true), (.int (181) 0), (.ref 38), .none, (.ref 39), (.ref 40), (.ref 41), (.int (226) 0), (.int (14) 0), (.str (.ofString "/claim/cut.py") 227)]), #[]⟩
noncomputable def o43 (P : Params) : Obj := ⟨(.type "function"), none, (.func ⟨(.ofString "on_octets"), (.ofString "AckPolicy.on_octets"), a43P.1, .stmts b43P.1, s43P.1, 3, [], (.ref 36), .none, .none, (.str (.ofString "thinstack.acks") 194), none, (.ref 42), .none, 0⟩), #[]⟩
noncomputable def o49 (P : Params) : Obj := ⟨(.type "code"), none, (.fields #[(.str (.ofString "at_once") 229), (.str (.ofString "AckPolicy.at_once") 230), (.str (.ofString "/claim/cut.py") 231), (.int (25) 0), (.int (1) 0), (.int (0) 0), (.int (0) 0), (.int (3) 0), (.ref 44), (.bool true), (.int (181) 0), (.ref 45), .none, (.ref 46), (.ref 47), (.ref 48), (.int (233) 0), (.int (25) 0), (.str (.ofString "/claim/cut.py") 234)]), #[]⟩
noncomputable def o50 (P : Params) : Obj := ⟨(.type "function"), none, (.func ⟨(.ofString "at_once"), (.ofString "AckPolicy.at_once"), a50P.1, .stmts b50P.1, s50P.1, 3, [], .none, .none, .none, (.str (.ofString "thinstack.acks") 194), none, (.ref 49), .none, 0⟩), #[]⟩
noncomputable def o56 (P : Params) : Obj := ⟨(.type "code"), none, (.fields #[(.str (.ofString "is_due") 236), (.str (.ofString "AckPolicy.is_due") 237), (.str (.ofString "/claim/cut.py") 238), (.int (28) 0), (.int (2) 0), (.int (0) 0), (.int (0) 0), (.int (3) 0), (.ref 51), (.bool true), (.int (181) 0), (.ref 52), .none, (.ref 53), (.ref 54), (.ref 55), (.int (241) 0), (.int (28) 0), (.str (.ofString "/claim/cut.py") 242)]), #[]⟩
noncomputable def o57 (P : Params) : Obj := ⟨(.type "function"), none, (.func ⟨(.ofString "is_due"), (.ofString "AckPolicy.is_due"), a57P.1, .stmts b57P.1, s57P.1, 3, [], .none, .none, .none, (.str (.ofString "thinstack.acks") 194), none, (.ref 56), .none, 0⟩), #[]⟩
noncomputable def o63 (P : Params) : Obj := ⟨(.type "code"), none, (.fields #[(.str (.ofString "on_sent") 244), (.str (.ofString "AckPolicy.on_sent") 245), (.str (.ofString "/claim/cut.py") 246), (.int (33) 0), (.int (1) 0), (.int (0) 0), (.int (0) 0), (.int (3) 0), (.ref 58), (.bool true), (.int (181) 0), (.ref 59), .none, (.ref 60), (.ref 61), (.ref 62), (.int (248) 0), (.int (33) 0), (.str (.ofString "/claim/cut.py") 249)]), #[]⟩
noncomputable def o64 (P : Params) : Obj := ⟨(.type "function"), none, (.func ⟨(.ofString "on_sent"), (.ofString "AckPolicy.on_sent"), a64P.1, .stmts b64P.1, s64P.1, 3, [], .none, .none, .none, (.str (.ofString "thinstack.acks") 194), none, (.ref 63), .none, 0⟩), #[]⟩
noncomputable def o73 (P : Params) : Obj := ⟨(.type "dict"), none, (.dict #[⟨PyData.keyHash P (.ofString "__module__"), (.str (.ofString "__module__") 205), (.str (.ofString "thinstack.acks") 194)⟩, ⟨PyData.keyHash P (.ofString "__firstlineno__"), (.str (.ofString "__firstlineno__") 209), (.int (6) 208)⟩, ⟨PyData.keyHash P (.ofString "__init__"), (.str (.ofString "__init__") 217), (.ref 35)⟩, ⟨PyData.keyHash P (.ofString "on_octets"), (.str (.ofString "on_octets") 228), (.ref 43)⟩, ⟨PyData.keyHash P (.ofString "at_once"), (.str (.ofString "at_once") 235), (.ref 50)⟩, ⟨PyData.keyHash P (.ofString "is_due"), (.str (.ofString "is_due") 243), (.ref 57)⟩, ⟨PyData.keyHash P (.ofString "on_sent"), (.str (.ofString "on_sent") 250), (.ref 64)⟩, ⟨PyData.keyHash P (.ofString "due_time"), (.str (.ofString "due_time") 257), (.ref 71)⟩, ⟨PyData.keyHash P (.ofString "__static_attributes__"), (.str (.ofString "__static_attributes__") 262), (.ref 72)⟩, ⟨PyData.keyHash P (.ofString "__dict__"), (.str (.ofString "__dict__") 264), (.ref 75)⟩, ⟨PyData.keyHash P (.ofString "__weakref__"), (.str (.ofString "__weakref__") 266), (.ref 76)⟩, ⟨PyData.keyHash P (.ofString "__doc__"), (.str (.ofString "__doc__") 267), .none⟩] 4), #[]⟩
noncomputable def o74 (P : Params) : Obj := ⟨(.type "type"), none, (.cls ⟨(.ofString "AckPolicy"), [(.type "object")], [(.ref 74), (.type "object")], 73, (.ofString "AckPolicy"), true, [], [], false, none, false⟩), #[none, none, (some (.str (.ofString "AckPolicy") 198)), (some (.str (.ofString "AckPolicy") 206)), (some (.builtin "object.__new__")), (some (.bool true))]⟩
noncomputable def o91 (P : Params) : Obj := ⟨(.type "code"), none, (.fields #[(.str (.ofString "__init__") 284), (.str (.ofString "Congestion.__init__") 285), (.str (.ofString "/claim/cut.py") 286), (.int (42) 0), (.int (4) 0), (.int (0) 0), (.int (0) 0), (.int (3) 0), (.ref 86), (.bool true), (.int (181) 0), (.ref 87), .none, (.ref 88), (.ref 89), (.ref 90), (.int (291) 0), (.int (42) 0), (.str (.ofString "/claim/cut.py") 292)]), #[]⟩
noncomputable def o92 (P : Params) : Obj := ⟨(.type "function"), none, (.func ⟨(.ofString "__init__"), (.ofString "Congestion.__init__"), a92P.1, .stmts b92P.1, s92P.1, 3, [], .none, .none, .none, (.str (.ofString "thinstack.congestion") 270), none, (.ref 91), .none, 0⟩), #[]⟩
noncomputable def o157 (P : Params) : Obj := ⟨(.type "dict"), none, (.dict #[⟨PyData.keyHash P (.ofString "__module__"), (.str (.ofString "__module__") 279), (.str (.ofString "thinstack.congestion") 270)⟩, ⟨PyData.keyHash P (.ofString "__firstlineno__"), (.str (.ofString "__firstlineno__") 283), (.int (40) 282)⟩, ⟨PyData.keyHash P (.ofString "__init__"), (.str (.ofString "__init__") 293), (.ref 92)⟩, ⟨PyData.keyHash P (.ofString "window"), (.str (.ofString "window") 300), (.ref 99)⟩, ⟨PyData.keyHash P (.ofString "grow"), (.str (.ofString "grow") 308), (.ref 106)⟩, ⟨PyData.keyHash P (.ofString "halved"), (.str (.ofString "halved") 316), (.ref 113)⟩, ⟨PyData.keyHash P (.ofString "acked"), (.str (.ofString "acked") 324), (.ref 120)⟩, ⟨PyData.keyHash P (.ofString "slow_start"), (.str (.ofString "slow_start") 333), (.ref 127)⟩, ⟨PyData.keyHash P (.ofString "avoid"), (.str (.ofString "avoid") 341), (.ref 134)⟩, ⟨PyData.keyHash P (.ofString "duplicate"), (.str (.ofString "duplicate") 349), (.ref 141)⟩, ⟨PyData.keyHash P (.ofString "recovered"), (.str (.ofString "recovered") 356), (.ref 148)⟩, ⟨PyData.keyHash P (.ofString "timed_out"), (.str (.ofString "timed_out") 364), (.ref 155)⟩, ⟨PyData.keyHash P (.ofString "__static_attributes__"), (.str (.ofString "__static_attributes__") 373), (.ref 156)⟩, ⟨PyData.keyHash P (.ofString "__dict__"), (.str (.ofString "__dict__") 375), (.ref 159)⟩, ⟨PyData.keyHash P (.ofString "__weakref__"), (.str (.ofString "__weakref__") 377), (.ref 160)⟩, ⟨PyData.keyHash P (.ofString "__doc__"), (.str (.ofString "__doc__") 378), .none⟩] 4), #[]⟩
noncomputable def o158 (P : Params) : Obj := ⟨(.type "type"), none, (.cls ⟨(.ofString "Congestion"), [(.type "object")], [(.ref 158), (.type "object")], 157, (.ofString "Congestion"), true, [], [], false, none, false⟩), #[none, none, (some (.str (.ofString "Congestion") 272)), (some (.str (.ofString "Congestion") 280)), (some (.builtin "object.__new__")), (some (.bool true))]⟩
noncomputable def o168 (P : Params) : Obj := ⟨(.type "code"), none, (.fields #[(.str (.ofString "plus") 383), (.str (.ofString "plus") 384), (.str (.ofString "/claim/cut.py") 385), (.int (98) 0), (.int (3) 0), (.int (0) 0), (.int (0) 0), (.int (3) 0), (.ref 163), (.bool true), (.int (181) 0), (.ref 164), .none, (.ref 165), (.ref 166), (.ref 167), (.int (389) 0), (.int (98) 0), (.str (.ofString "/claim/cut.py") 390)]), #[]⟩
noncomputable def o169 (P : Params) : Obj := ⟨(.type "function"), none, (.func ⟨(.ofString "plus"), (.ofString "plus"), a169P.1, .stmts b169P.1, s169P.1, 3, [], .none, .none, .none, (.str (.ofString "thinstack.sequence") 381), none, (.ref 168), .none, 0⟩), #[]⟩
noncomputable def o175 (P : Params) : Obj := ⟨(.type "code"), none, (.fields #[(.str (.ofString "distance") 392), (.str (.ofString "distance") 393), (.str (.ofString "/claim/cut.py") 394), (.int (100) 0), (.int (3) 0), (.int (0) 0), (.int (0) 0), (.int (3) 0), (.ref 170), (.bool true), (.int (181) 0), (.ref 171), .none, (.ref 172), (.ref 173), (.ref 174), (.int (398) 0), (.int (100) 0), (.str (.ofString "/claim/cut.py") 399)]), #[]⟩
noncomputable def o176 (P : Params) : Obj := ⟨(.type "function"), none, (.func ⟨(.ofString "distance"), (.ofString "distance"), a176P.1, .stmts b176P.1, s176P.1, 3, [], .none, .none, .none, (.str (.ofString "thinstack.sequence") 381), none, (.ref 175), .none, 0⟩), #[]⟩
noncomputable def o182 (P : Params) : Obj := ⟨(.type "code"), none, (.fields #[(.str (.ofString "is_before") 401), (.str (.ofString "is_before") 402), (.str (.ofString "/claim/cut.py") 403), (.int (102) 0), (.int (3) 0), (.int (0) 0), (.int (0) 0), (.int (3) 0), (.ref 177), (.bool true), (.int (181) 0), (.ref 178), .none, (.ref 179), (.ref 180), (.ref 181), (.int (408) 0), (.int (102) 0), (.str (.ofString "/claim/cut.py") 409)]), #[]⟩
noncomputable def o183 (P : Params) : Obj := ⟨(.type "function"), none, (.func ⟨(.ofString "is_before"), (.ofString "is_before"), a183P.1, .stmts b183P.1, s183P.1, 3, [], .none, .none, .none, (.str (.ofString "thinstack.sequence") 381), none, (.ref 182), .none, 0⟩), #[]⟩
noncomputable def o189 (P : Params) : Obj := ⟨(.type "code"), none, (.fields #[(.str (.ofString "is_at_most") 411), (.str (.ofString "is_at_most") 412), (.str (.ofString "/claim/cut.py") 413), (.int (105) 0), (.int (3) 0), (.int (0) 0), (.int (0) 0), (.int (3) 0), (.ref 184), (.bool true), (.int (181) 0), (.ref 185), .none, (.ref 186), (.ref 187), (.ref 188), (.int (417) 0), (.int (105) 0), (.str (.ofString "/claim/cut.py") 418)]), #[]⟩
noncomputable def o190 (P : Params) : Obj := ⟨(.type "function"), none, (.func ⟨(.ofString "is_at_most"), (.ofString "is_at_most"), a190P.1, .stmts b190P.1, s190P.1, 3, [], .none, .none, .none, (.str (.ofString "thinstack.sequence") 381), none, (.ref 189), .none, 0⟩), #[]⟩
noncomputable def o210 (P : Params) : Obj := ⟨(.type "code"), none, (.fields #[(.str (.ofString "__init__") 445), (.str (.ofString "RetransmitClock.__init__") 446), (.str (.ofString "/claim/cut.py") 447), (.int (113) 0), (.int (3) 0), (.int (0) 0), (.int (0) 0), (.int (3) 0), (.ref 205), (.bool true), (.int (181) 0), (.ref 206), .none, (.ref 207), (.ref 208), (.ref 209), (.int (451) 0), (.int (113) 0), (.str (.ofString "/claim/cut.py") 452)]), #[]⟩
noncomputable def o211 (P : Params) : Obj := ⟨(.type "function"), none, (.func ⟨(.ofString "__init__"), (.ofString "RetransmitClock.__init__"), a211P.1, .stmts b211P.1, s211P.1, 3, [], .none, .none, .none, (.str (.ofString "thinstack.retransmit") 429), none, (.ref 210), .none, 0⟩), #[]⟩
noncomputable def o245 (P : Params) : Obj := ⟨(.type "code"), none, (.fields #[(.str (.ofString "back_off") 488), (.str (.ofString "RetransmitClock.back_off") 489), (.str (.ofString "/claim/cut.py") 490), (.int (140) 0), (.int (1) 0), (.int (0) 0), (.int (0) 0), (.int (3) 0), (.ref 240), (.bool true), (.int (181) 0), (.ref 241), .none, (.ref 242), (.ref 243), (.ref 244), (.int (492) 0), (.int (140) 0), (.str (.ofString "/claim/cut.py") 493)]), #[]⟩
noncomputable def o246 (P : Params) : Obj := ⟨(.type "function"), none, (.func ⟨(.ofString "back_off"), (.ofString "RetransmitClock.back_off"), a246P.1, .stmts b246P.1, s246P.1, 3, [], .none, .none, .none, (.str (.ofString "thinstack.retransmit") 429), none, (.ref 245), .none, 0⟩), #[]⟩
noncomputable def o259 (P : Params) : Obj := ⟨(.type "code"), none, (.fields #[(.str (.ofString "waited") 502), (.str (.ofString "RetransmitClock.waited") 503), (.str (.ofString "/claim/cut.py") 504), (.int (148) 0), (.int (1) 0), (.int (0) 0), (.int (0) 0), (.int (3) 0), (.ref 254), (.bool true), (.int (181) 0), (.ref 255), .none, (.ref 256), (.ref 257), (.ref 258), (.int (508) 0), (.int (148) 0), (.str (.ofString "/claim/cut.py") 509)]), #[]⟩
noncomputable def o260 (P : Params) : Obj := ⟨(.type "function"), none, (.func ⟨(.ofString "waited"), (.ofString "RetransmitClock.waited"), a260P.1, .stmts b260P.1, s260P.1, 3, [], .none, .none, .none, (.str (.ofString "thinstack.retransmit") 429), none, (.ref 259), .none, 0⟩), #[]⟩
noncomputable def o269 (P : Params) : Obj := ⟨(.type "dict"), none, (.dict #[⟨PyData.keyHash P (.ofString "__module__"), (.str (.ofString "__module__") 440), (.str (.ofString "thinstack.retransmit") 429)⟩, ⟨PyData.keyHash P (.ofString "__firstlineno__"), (.str (.ofString "__firstlineno__") 444), (.int (111) 443)⟩, ⟨PyData.keyHash P (.ofString "__init__"), (.str (.ofString "__init__") 453), (.ref 211)⟩, ⟨PyData.keyHash P (.ofString "is_timing"), (.str (.ofString "is_timing") 460), (.ref 218)⟩, ⟨PyData.keyHash P (.ofString "sent"), (.str (.ofString "sent") 469), (.ref 225)⟩, ⟨PyData.keyHash P (.ofString "forget"), (.str (.ofString "forget") 476), (.ref 232)⟩, ⟨PyData.keyHash P (.ofString "acked"), (.str (.ofString "acked") 487), (.ref 239)⟩, ⟨PyData.keyHash P (.ofString "back_off"), (.str (.ofString "back_off") 494), (.ref 246)⟩, ⟨PyData.keyHash P (.ofString "reset_tries"), (.str (.ofString "reset_tries") 501), (.ref 253)⟩, ⟨PyData.keyHash P (.ofString "waited"), (.str (.ofString "waited") 510), (.ref 260)⟩, ⟨PyData.keyHash P (.ofString "deadline"), (.str (.ofString "deadline") 518), (.ref 267)⟩, ⟨PyData.keyHash P (.ofString "__static_attributes__"), (.str (.ofString "__static_attributes__") 524), (.ref 268)⟩, ⟨PyData.keyHash P (.ofString "__dict__"), (.str (.ofString "__dict__") 526), (.ref 271)⟩, ⟨PyData.keyHash P (.ofString "__weakref__"), (.str (.ofString "__weakref__") 528), (.ref 272)⟩, ⟨PyData.keyHash P (.ofString "__doc__"), (.str (.ofString "__doc__") 529), .none⟩] 4), #[]⟩
noncomputable def o270 (P : Params) : Obj := ⟨(.type "type"), none, (.cls ⟨(.ofString "RetransmitClock"), [(.type "object")], [(.ref 270), (.type "object")], 269, (.ofString "RetransmitClock"), true, [], [], false, none, false⟩), #[none, none, (some (.str (.ofString "RetransmitClock") 433)), (some (.str (.ofString "RetransmitClock") 441)), (some (.builtin "object.__new__")), (some (.bool true))]⟩
noncomputable def o287 (P : Params) : Obj := ⟨(.type "code"), none, (.fields #[(.str (.ofString "__init__") 546), (.str (.ofString "RttEstimate.__init__") 547), (.str (.ofString "/claim/cut.py") 548), (.int (159) 0), (.int (4) 0), (.int (0) 0), (.int (0) 0), (.int (3) 0), (.ref 282), (.bool true), (.int (181) 0), (.ref 283), .none, (.ref 284), (.ref 285), (.ref 286), (.int (553) 0), (.int (159) 0), (.str (.ofString "/claim/cut.py") 554)]), #[]⟩
noncomputable def o288 (P : Params) : Obj := ⟨(.type "function"), none, (.func ⟨(.ofString "__init__"), (.ofString "RttEstimate.__init__"), a288P.1, .stmts b288P.1, s288P.1, 3, [], .none, .none, .none, (.str (.ofString "thinstack.rtt") 532), none, (.ref 287), .none, 0⟩), #[]⟩
noncomputable def o308 (P : Params) : Obj := ⟨(.type "code"), none, (.fields #[(.str (.ofString "plain_timeout") 572), (.str (.ofString "RttEstimate.plain_timeout") 573), (.str (.ofString "/claim/cut.py") 574), (.int (182) 0), (.int (1) 0), (.int (0) 0), (.int (0) 0), (.int (3) 0), (.ref 303), (.bool true), (.int (181) 0), (.ref 304), .none, (.ref 305), (.ref 306), (.ref 307), (.int (576) 0), (.int (182) 0), (.str (.ofString "/claim/cut.py") 577)]), #[]⟩
noncomputable def o309 (P : Params) : Obj := ⟨(.type "function"), none, (.func ⟨(.ofString "plain_timeout"), (.ofString "RttEstimate.plain_timeout"), a309P.1, .stmts b309P.1, s309P.1, 3, [], .none, .none, .none, (.str (.ofString "thinstack.rtt") 532), none, (.ref 308), .none, 0⟩), #[]⟩
noncomputable def o315 (P : Params) : Obj := ⟨(.type "code"), none, (.fields #[(.str (.ofString "timeout") 579), (.str (.ofString "RttEstimate.timeout") 580), (.str (.ofString "/claim/cut.py") 581), (.int (187) 0), (.int (1) 0), (.int (0) 0), (.int (0) 0), (.int (3) 0), (.ref 310), (.bool true), (.int (181) 0), (.ref 311), .none, (.ref 312), (.ref 313), (.ref 314), (.int (583) 0), (.int (187) 0), (.str (.ofString "/claim/cut.py") 584)]), #[]⟩
noncomputable def o316 (P : Params) : Obj := ⟨(.type "function"), none, (.func ⟨(.ofString "timeout"), (.ofString "RttEstimate.timeout"), a316P.1, .stmts b316P.1, s316P.1, 3, [], .none, .none, .none, (.str (.ofString "thinstack.rtt") 532), none, (.ref 315), .none, 0⟩), #[]⟩
noncomputable def o322 (P : Params) : Obj := ⟨(.type "code"), none, (.fields #[(.str (.ofString "bounded") 586), (.str (.ofString "RttEstimate.bounded") 587), (.str (.ofString "/claim/cut.py") 588), (.int (190) 0), (.int (2) 0), (.int (0) 0), (.int (0) 0), (.int (3) 0), (.ref 317), (.bool true), (.int (181) 0), (.ref 318), .none, (.ref 319), (.ref 320), (.ref 321), (.int (591) 0), (.int (190) 0), (.str (.ofString "/claim/cut.py") 592)]), #[]⟩
noncomputable def o323 (P : Params) : Obj := ⟨(.type "function"), none, (.func ⟨(.ofString "bounded"), (.ofString "RttEstimate.bounded"), a323P.1, .stmts b323P.1, s323P.1, 3, [], .none, .none, .none, (.str (.ofString "thinstack.rtt") 532), none, (.ref 322), .none, 0⟩), #[]⟩
noncomputable def o325 (P : Params) : Obj := ⟨(.type "dict"), none, (.dict #[⟨PyData.keyHash P (.ofString "__module__"), (.str (.ofString "__module__") 541), (.str (.ofString "thinstack.rtt") 532)⟩, ⟨PyData.keyHash P (.ofString "__firstlineno__"), (.str (.ofString "__firstlineno__") 545), (.int (157) 544)⟩, ⟨PyData.keyHash P (.ofString "__init__"), (.str (.ofString "__init__") 555), (.ref 288)⟩, ⟨PyData.keyHash P (.ofString "sample"), (.str (.ofString "sample") 564), (.ref 295)⟩, ⟨PyData.keyHash P (.ofString "mean"), (.str (.ofString "mean") 571), (.ref 302)⟩, ⟨PyData.keyHash P (.ofString "plain_timeout"), (.str (.ofString "plain_timeout") 578), (.ref 309)⟩, ⟨PyData.keyHash P (.ofString "timeout"), (.str (.ofString "timeout") 585), (.ref 316)⟩, ⟨PyData.keyHash P (.ofString "bounded"), (.str (.ofString "bounded") 593), (.ref 323)⟩, ⟨PyData.keyHash P (.ofString "__static_attributes__"), (.str (.ofString "__static_attributes__") 600), (.ref 324)⟩, ⟨PyData.keyHash P (.ofString "__dict__"), (.str (.ofString "__dict__") 602), (.ref 327)⟩, ⟨PyData.keyHash P (.ofString "__weakref__"), (.str (.ofString "__weakref__") 604), (.ref 328)⟩, ⟨PyData.keyHash P (.ofString "__doc__"), (.str (.ofString "__doc__") 605), .none⟩] 4), #[]⟩
noncomputable def o326 (P : Params) : Obj := ⟨(.type "type"), none, (.cls ⟨(.ofString "RttEstimate"), [(.type "object")], [(.ref 326), (.type "object")], 325, (.ofString "RttEstimate"), true, [], [], false, none, false⟩), #[none, none, (some (.str (.ofString "RttEstimate") 534)), (some (.str (.ofString "RttEstimate") 542)), (some (.builtin "object.__new__")), (some (.bool true))]⟩
noncomputable def o387 (P : Params) : Obj := ⟨(.type "code"), none, (.fields #[(.str (.ofString "__init__") 685), (.str (.ofString "SendQueue.__init__") 686), (.str (.ofString "/claim/cut.py") 687), (.int (206) 0), (.int (2) 0), (.int (0) 0), (.int (0) 0), (.int (3) 0), (.ref 382), (.bool true), (.int (181) 0), (.ref 383), .none, (.ref 384), (.ref 385), (.ref 386), (.int (690) 0), (.int (206) 0), (.str (.ofString "/claim/cut.py") 691)]), #[]⟩
noncomputable def o388 (P : Params) : Obj := ⟨(.type "function"), none, (.func ⟨(.ofString "__init__"), (.ofString "SendQueue.__init__"), a388P.1, .stmts b388P.1, s388P.1, 3, [], .none, .none, .none, (.str (.ofString "thinstack.send_queue") 671), none, (.ref 387), .none, 0⟩), #[]⟩
noncomputable def o425 (P : Params) : Obj := ⟨(.type "dict"), none, (.dict #[⟨PyData.keyHash P (.ofString "__module__"), (.str (.ofString "__module__") 680), (.str (.ofString "thinstack.send_queue") 671)⟩, ⟨PyData.keyHash P (.ofString "__firstlineno__"), (.str (.ofString "__firstlineno__") 684), (.int (204) 683)⟩, ⟨PyData.keyHash P (.ofString "__init__"), (.str (.ofString "__init__") 692), (.ref 388)⟩, ⟨PyData.keyHash P (.ofString "size"), (.str (.ofString "size") 699), (.ref 395)⟩, ⟨PyData.keyHash P (.ofString "room_left"), (.str (.ofString "room_left") 706), (.ref 402)⟩, ⟨PyData.keyHash P (.ofString "put"), (.str (.ofString "put") 715), (.ref 409)⟩, ⟨PyData.keyHash P (.ofString "part"), (.str (.ofString "part") 724), (.ref 416)⟩, ⟨PyData.keyHash P (.ofString "drop"), (.str (.ofString "drop") 732), (.ref 423)⟩, ⟨PyData.keyHash P (.ofString "__static_attributes__"), (.str (.ofString "__static_attributes__") 735), (.ref 424)⟩, ⟨PyData.keyHash P (.ofString "__dict__"), (.str (.ofString "__dict__") 737), (.ref 427)⟩, ⟨PyData.keyHash P (.ofString "__weakref__"), (.str (.ofString "__weakref__") 739), (.ref 428)⟩, ⟨PyData.keyHash P (.ofString "__doc__"), (.str (.ofString "__doc__") 740), .none⟩] 4), #[]⟩
noncomputable def o426 (P : Params) : Obj := ⟨(.type "type"), none, (.cls ⟨(.ofString "SendQueue"), [(.type "object")], [(.ref 426), (.type "object")], 425, (.ofString "SendQueue"), true, [], [], false, none, false⟩), #[none, none, (some (.str (.ofString "SendQueue") 673)), (some (.str (.ofString "SendQueue") 681)), (some (.builtin "object.__new__")), (some (.bool true))]⟩
noncomputable def o443 (P : Params) : Obj := ⟨(.type "code"), none, (.fields #[(.str (.ofString "__init__") 757), (.str (.ofString "PeerWindow.__init__") 758), (.str (.ofString "/claim/cut.py") 759), (.int (235) 0), (.int (2) 0), (.int (0) 0), (.int (0) 0), (.int (3) 0), (.ref 438), (.bool true), (.int (181) 0), (.ref 439), .none, (.ref 440), (.ref 441), (.ref 442), (.int (762) 0), (.int (235) 0), (.str (.ofString "/claim/cut.py") 763)]), #[]⟩
noncomputable def o444 (P : Params) : Obj := ⟨(.type "function"), none, (.func ⟨(.ofString "__init__"), (.ofString "PeerWindow.__init__"), a444P.1, .stmts b444P.1, s444P.1, 3, [], .none, .none, .none, (.str (.ofString "thinstack.sender") 743), none, (.ref 443), .none, 0⟩), #[]⟩
noncomputable def o460 (P : Params) : Obj := ⟨(.type "dict"), none, (.dict #[⟨PyData.keyHash P (.ofString "__module__"), (.str (.ofString "__module__") 752), (.str (.ofString "thinstack.sender") 743)⟩, ⟨PyData.keyHash P (.ofString "__firstlineno__"), (.str (.ofString "__firstlineno__") 756), (.int (233) 755)⟩, ⟨PyData.keyHash P (.ofString "__init__"), (.str (.ofString "__init__") 764), (.ref 444)⟩, ⟨PyData.keyHash P (.ofString "is_newer"), (.str (.ofString "is_newer") 774), (.ref 451)⟩, ⟨PyData.keyHash P (.ofString "take"), (.str (.ofString "take") 784), (.ref 458)⟩, ⟨PyData.keyHash P (.ofString "__static_attributes__"), (.str (.ofString "__static_attributes__") 790), (.ref 459)⟩, ⟨PyData.keyHash P (.ofString "__dict__"), (.str (.ofString "__dict__") 792), (.ref 462)⟩, ⟨PyData.keyHash P (.ofString "__weakref__"), (.str (.ofString "__weakref__") 794), (.ref 463)⟩, ⟨PyData.keyHash P (.ofString "__doc__"), (.str (.ofString "__doc__") 795), .none⟩] 4), #[]⟩
noncomputable def o461 (P : Params) : Obj := ⟨(.type "type"), none, (.cls ⟨(.ofString "PeerWindow"), [(.type "object")], [(.ref 461), (.type "object")], 460, (.ofString "PeerWindow"), true, [], [], false, none, false⟩), #[none, none, (some (.str (.ofString "PeerWindow") 745)), (some (.str (.ofString "PeerWindow") 753)), (some (.builtin "object.__new__")), (some (.bool true))]⟩
noncomputable def o478 (P : Params) : Obj := ⟨(.type "code"), none, (.fields #[(.str (.ofString "__init__") 810), (.str (.ofString "Sender.__init__") 811), (.str (.ofString "/claim/cut.py") 812), (.int (260) 0), (.int (5) 0), (.int (0) 0), (.int (0) 0), (.int (3) 0), (.ref 473), (.bool true), (.int (181) 0), (.ref 474), .none, (.ref 475), (.ref 476), (.ref 477), (.int (818) 0), (.int (260) 0), (.str (.ofString "/claim/cut.py") 819)]), #[]⟩
noncomputable def o479 (P : Params) : Obj := ⟨(.type "function"), none, (.func ⟨(.ofString "__init__"), (.ofString "Sender.__init__"), a479P.1, .stmts b479P.1, s479P.1, 3, [], .none, .none, .none, (.str (.ofString "thinstack.sender") 743), none, (.ref 478), .none, 0⟩), #[]⟩
noncomputable def o651 (P : Params) : Obj := ⟨(.type "dict"), none, (.dict #[⟨PyData.keyHash P (.ofString "__module__"), (.str (.ofString "__module__") 805), (.str (.ofString "thinstack.sender") 743)⟩, ⟨PyData.keyHash P (.ofString "__firstlineno__"), (.str (.ofString "__firstlineno__") 809), (.int (258) 808)⟩, ⟨PyData.keyHash P (.ofString "__init__"), (.str (.ofString "__init__") 820), (.ref 479)⟩, ⟨PyData.keyHash P (.ofString "window"), (.str (.ofString "window") 828), (.ref 487)⟩, ⟨PyData.keyHash P (.ofString "take_window"), (.str (.ofString "take_window") 838), (.ref 494)⟩, ⟨PyData.keyHash P (.ofString "put"), (.str (.ofString "put") 846), (.ref 501)⟩, ⟨PyData.keyHash P (.ofString "ask_fin"), (.str (.ofString "ask_fin") 853), (.ref 508)⟩, ⟨PyData.keyHash P (.ofString "flight"), (.str (.ofString "flight") 860), (.ref 515)⟩, ⟨PyData.keyHash P (.ofString "usable"), (.str (.ofString "usable") 868), (.ref 522)⟩, ⟨PyData.keyHash P (.ofString "data_sent"), (.str (.ofString "data_sent") 875), (.ref 529)⟩, ⟨PyData.keyHash P (.ofString "unsent"), (.str (.ofString "unsent") 882), (.ref 536)⟩, ⟨PyData.keyHash P (.ofString "is_fin_due"), (.str (.ofString "is_fin_due") 890), (.ref 543)⟩, ⟨PyData.keyHash P (.ofString "is_fin_acked"), (.str (.ofString "is_fin_acked") 897), (.ref 550)⟩, ⟨PyData.keyHash P (.ofString "is_all_acked"), (.str (.ofString "is_all_acked") 904), (.ref 557)⟩, ⟨PyData.keyHash P (.ofString "go_on"), (.str (.ofString "go_on") 912), (.ref 564)⟩, ⟨PyData.keyHash P (.ofString "start"), (.str (.ofString "start") 919), (.ref 571)⟩, ⟨PyData.keyHash P (.ofString "may_go"), (.str (.ofString "may_go") 928), (.ref 578)⟩, ⟨PyData.keyHash P (.ofString "pieces"), (.str (.ofString "pieces") 939), (.ref 586)⟩, ⟨PyData.keyHash P (.ofString "piece_of"), (.str (.ofString "piece_of") 952), (.ref 593)⟩, ⟨PyData.keyHash P (.ofString "ever_sent"), (.str (.ofString "ever_sent") 959), (.ref 600)⟩, ⟨PyData.keyHash P (.ofString "first_piece"), (.str (.ofString "first_piece") 966), (.ref 607)⟩, ⟨PyData.keyHash P (.ofString "reach"), (.str (.ofString "reach") 974), (.ref 614)⟩, ⟨PyData.keyHash P (.ofString "back_to"), (.str (.ofString "back_to") 982), (.ref 621)⟩, ⟨PyData.keyHash P (.ofString "is_idle_with_more"), (.str (.ofString "is_idle_with_more") 989), (.ref 628)⟩, ⟨PyData.keyHash P (.ofString "needs_probe"), (.str (.ofString "needs_probe") 996), (.ref 635)⟩, ⟨PyData.keyHash P (.ofString "probe"), (.str (.ofString "probe") 1003), (.ref 642)⟩, ⟨PyData.keyHash P (.ofString "acked"), (.str (.ofString "acked") 1015), (.ref 649)⟩, ⟨PyData.keyHash P (.ofString "__static_attributes__"), (.str (.ofString "__static_attributes__") 1027), (.ref 650)⟩, ⟨PyData.keyHash P (.ofString "__dict__"), (.str (.ofString "__dict__") 1029), (.ref 653)⟩, ⟨PyData.keyHash P (.ofString "__weakref__"), (.str (.ofString "__weakref__") 1031), (.ref 654)⟩, ⟨PyData.keyHash P (.ofString "__doc__"), (.str (.ofString "__doc__") 1032), .none⟩] 4), #[]⟩
noncomputable def o652 (P : Params) : Obj := ⟨(.type "type"), none, (.cls ⟨(.ofString "Sender"), [(.type "object")], [(.ref 652), (.type "object")], 651, (.ofString "Sender"), true, [], [], false, none, false⟩), #[none, none, (some (.str (.ofString "Sender") 798)), (some (.str (.ofString "Sender") 806)), (some (.builtin "object.__new__")), (some (.bool true))]⟩
noncomputable def o662 (P : Params) : Obj := ⟨(.type "code"), none, (.fields #[(.str (.ofString "put16") 1037), (.str (.ofString "put16") 1038), (.str (.ofString "/claim/cut.py") 1039), (.int (387) 0), (.int (1) 0), (.int (0) 0), (.int (0) 0), (.int (3) 0), (.ref 657), (.bool true), (.int (181) 0), (.ref 658), .none, (.ref 659), (.ref 660), (.ref 661), (.int (1041) 0), (.int (387) 0), (.str (.ofString "/claim/cut.py") 1042)]), #[]⟩
noncomputable def o663 (P : Params) : Obj := ⟨(.type "function"), none, (.func ⟨(.ofString "put16"), (.ofString "put16"), a663P.1, .stmts b663P.1, s663P.1, 3, [], .none, .none, .none, (.str (.ofString "thinstack.octets") 1035), none, (.ref 662), .none, 0⟩), #[]⟩
noncomputable def o671 (P : Params) : Obj := ⟨(.type "tuple"), none, (.seq #[(.int (0) 1066), (.bytes #[] 1067), (.bytes #[] 1068)] 0), #[]⟩
noncomputable def o677 (P : Params) : Obj := ⟨(.type "code"), none, (.fields #[(.str (.ofString "__init__") 1069), (.str (.ofString "Segment.__init__") 1070), (.str (.ofString "/claim/cut.py") 1071), (.int (396) 0), (.int (10) 0), (.int (0) 0), (.int (0) 0), (.int (3) 0), (.ref 672), (.bool true), (.int (181) 0), (.ref 673), .none, (.ref 674), (.ref 675), (.ref 676), (.int (1082) 0), (.int (396) 0), (.str (.ofString "/claim/cut.py") 1083)]), #[]⟩
noncomputable def o678 (P : Params) : Obj := ⟨(.type "function"), none, (.func ⟨(.ofString "__init__"), (.ofString "Segment.__init__"), a678P.1, .stmts b678P.1, s678P.1, 3, [], (.ref 671), .none, .none, (.str (.ofString "thinstack.tcp_segment") 1044), none, (.ref 677), .none, 0⟩), #[]⟩
noncomputable def o701 (P : Params) : Obj := ⟨(.type "dict"), none, (.dict #[⟨PyData.keyHash P (.ofString "__module__"), (.str (.ofString "__module__") 1061), (.str (.ofString "thinstack.tcp_segment") 1044)⟩, ⟨PyData.keyHash P (.ofString "__firstlineno__"), (.str (.ofString "__firstlineno__") 1065), (.int (394) 1064)⟩, ⟨PyData.keyHash P (.ofString "__init__"), (.str (.ofString "__init__") 1084), (.ref 678)⟩, ⟨PyData.keyHash P (.ofString "has"), (.str (.ofString "has") 1092), (.ref 685)⟩, ⟨PyData.keyHash P (.ofString "length"), (.str (.ofString "length") 1099), (.ref 692)⟩, ⟨PyData.keyHash P (.ofString "row"), (.str (.ofString "row") 1106), (.ref 699)⟩, ⟨PyData.keyHash P (.ofString "__static_attributes__"), (.str (.ofString "__static_attributes__") 1116), (.ref 700)⟩, ⟨PyData.keyHash P (.ofString "__dict__"), (.str (.ofString "__dict__") 1118), (.ref 703)⟩, ⟨PyData.keyHash P (.ofString "__weakref__"), (.str (.ofString "__weakref__") 1120), (.ref 704)⟩, ⟨PyData.keyHash P (.ofString "__doc__"), (.str (.ofString "__doc__") 1121), .none⟩] 4), #[]⟩
noncomputable def o702 (P : Params) : Obj := ⟨(.type "type"), none, (.cls ⟨(.ofString "Segment"), [(.type "object")], [(.ref 702), (.type "object")], 701, (.ofString "Segment"), true, [], [], false, none, false⟩), #[none, none, (some (.str (.ofString "Segment") 1054)), (some (.str (.ofString "Segment") 1062)), (some (.builtin "object.__new__")), (some (.bool true))]⟩
noncomputable def o712 (P : Params) : Obj := ⟨(.type "code"), none, (.fields #[(.str (.ofString "check_number") 1124), (.str (.ofString "check_number") 1125), (.str (.ofString "/claim/cut.py") 1126), (.int (415) 0), (.int (2) 0), (.int (0) 0), (.int (0) 0), (.int (3) 0), (.ref 707), (.bool true), (.int (181) 0), (.ref 708), .none, (.ref 709), (.ref 710), (.ref 711), (.int (1129) 0), (.int (415) 0), (.str (.ofString "/claim/cut.py") 1130)]), #[]⟩
noncomputable def o713 (P : Params) : Obj := ⟨(.type "function"), none, (.func ⟨(.ofString "check_number"), (.ofString "check_number"), a713P.1, .stmts b713P.1, s713P.1, 3, [], .none, .none, .none, (.str (.ofString "thinstack.tcp_segment") 1044), none, (.ref 712), .none, 0⟩), #[]⟩
noncomputable def o719 (P : Params) : Obj := ⟨(.type "code"), none, (.fields #[(.str (.ofString "mss_option") 1132), (.str (.ofString "mss_option") 1133), (.str (.ofString "/claim/cut.py") 1134), (.int (418) 0), (.int (1) 0), (.int (0) 0), (.int (0) 0), (.int (3) 0), (.ref 714), (.bool true), (.int (181) 0), (.ref 715), .none, (.ref 716), (.ref 717), (.ref 718), (.int (1136) 0), (.int (418) 0), (.str (.ofString "/claim/cut.py") 1137)]), #[]⟩
noncomputable def o720 (P : Params) : Obj := ⟨(.type "function"), none, (.func ⟨(.ofString "mss_option"), (.ofString "mss_option"), a720P.1, .stmts b720P.1, s720P.1, 3, [], .none, .none, .none, (.str (.ofString "thinstack.tcp_segment") 1044), none, (.ref 719), .none, 0⟩), #[]⟩
noncomputable def o728 (P : Params) : Obj := ⟨(.type "tuple"), none, (.seq #[(.int (16) 1155)] 0), #[]⟩
noncomputable def o732 (P : Params) : Obj := ⟨(.type "code"), none, (.fields #[(.str (.ofString "__init__") 1156), (.str (.ofString "Wheel.__init__") 1157), (.str (.ofString "/claim/cut.py") 1158), (.int (425) 0), (.int (2) 0), (.int (0) 0), (.int (0) 0), (.int (3) 0), (.ref 729), (.bool true), (.int (181) 0), (.ref 730), .none, .none, .none, (.ref 731), (.int (1159) 0), (.int (425) 0), (.str (.ofString "/claim/cut.py") 1160)]), #[]⟩
noncomputable def o733 (P : Params) : Obj := ⟨(.type "function"), none, (.func ⟨(.ofString "__init__"), (.ofString "Wheel.__init__"), a733P.1, .stmts b733P.1, s733P.1, 3, [], (.ref 728), .none, .none, (.str (.ofString "thinstack.wheel") 1141), none, (.ref 732), .none, 0⟩), #[]⟩
noncomputable def o739 (P : Params) : Obj := ⟨(.type "code"), none, (.fields #[(.str (.ofString "put") 1162), (.str (.ofString "Wheel.put") 1163), (.str (.ofString "/claim/cut.py") 1164), (.int (433) 0), (.int (3) 0), (.int (0) 0), (.int (0) 0), (.int (3) 0), (.ref 734), (.bool true), (.int (181) 0), (.ref 735), .none, (.ref 736), (.ref 737), (.ref 738), (.int (1168) 0), (.int (433) 0), (.str (.ofString "/claim/cut.py") 1169)]), #[]⟩
noncomputable def o740 (P : Params) : Obj := ⟨(.type "function"), none, (.func ⟨(.ofString "put"), (.ofString "Wheel.put"), a740P.1, .stmts b740P.1, s740P.1, 3, [], .none, .none, .none, (.str (.ofString "thinstack.wheel") 1141), none, (.ref 739), .none, 0⟩), #[]⟩
noncomputable def o746 (P : Params) : Obj := ⟨(.type "code"), none, (.fields #[(.str (.ofString "list_of") 1171), (.str (.ofString "Wheel.list_of") 1172), (.str (.ofString "/claim/cut.py") 1173), (.int (439) 0), (.int (2) 0), (.int (0) 0), (.int (0) 0), (.int (3) 0), (.ref 741), (.bool true), (.int (181) 0), (.ref 742), .none, (.ref 743), (.ref 744), (.ref 745), (.int (1176) 0), (.int (439) 0), (.str (.ofString "/claim/cut.py") 1177)]), #[]⟩
noncomputable def o747 (P : Params) : Obj := ⟨(.type "function"), none, (.func ⟨(.ofString "list_of"), (.ofString "Wheel.list_of"), a747P.1, .stmts b747P.1, s747P.1, 3, [], .none, .none, .none, (.str (.ofString "thinstack.wheel") 1141), none, (.ref 746), .none, 0⟩), #[]⟩
noncomputable def o753 (P : Params) : Obj := ⟨(.type "code"), none, (.fields #[(.str (.ofString "cancel") 1179), (.str (.ofString "Wheel.cancel") 1180), (.str (.ofString "/claim/cut.py") 1181), (.int (444) 0), (.int (2) 0), (.int (0) 0), (.int (0) 0), (.int (3) 0), (.ref 748), (.bool true), (.int (181) 0), (.ref 749), .none, (.ref 750), (.ref 751), (.ref 752), (.int (1187) 0), (.int (444) 0), (.str (.ofString "/claim/cut.py") 1188)]), #[]⟩
noncomputable def o754 (P : Params) : Obj := ⟨(.type "function"), none, (.func ⟨(.ofString "cancel"), (.ofString "Wheel.cancel"), a754P.1, .stmts b754P.1, s754P.1, 3, [], .none, .none, .none, (.str (.ofString "thinstack.wheel") 1141), none, (.ref 753), .none, 0⟩), #[]⟩
noncomputable def o760 (P : Params) : Obj := ⟨(.type "code"), none, (.fields #[(.str (.ofString "time_of") 1190), (.str (.ofString "Wheel.time_of") 1191), (.str (.ofString "/claim/cut.py") 1192), (.int (451) 0), (.int (2) 0), (.int (0) 0), (.int (0) 0), (.int (3) 0), (.ref 755), (.bool true), (.int (181) 0), (.ref 756), .none, (.ref 757), (.ref 758), (.ref 759), (.int (1195) 0), (.int (451) 0), (.str (.ofString "/claim/cut.py") 1196)]), #[]⟩
noncomputable def o761 (P : Params) : Obj := ⟨(.type "function"), none, (.func ⟨(.ofString "time_of"), (.ofString "Wheel.time_of"), a761P.1, .stmts b761P.1, s761P.1, 3, [], .none, .none, .none, (.str (.ofString "thinstack.wheel") 1141), none, (.ref 760), .none, 0⟩), #[]⟩
noncomputable def o782 (P : Params) : Obj := ⟨(.type "dict"), none, (.dict #[⟨PyData.keyHash P (.ofString "__module__"), (.str (.ofString "__module__") 1150), (.str (.ofString "thinstack.wheel") 1141)⟩, ⟨PyData.keyHash P (.ofString "__firstlineno__"), (.str (.ofString "__firstlineno__") 1154), (.int (423) 1153)⟩, ⟨PyData.keyHash P (.ofString "__init__"), (.str (.ofString "__init__") 1161), (.ref 733)⟩, ⟨PyData.keyHash P (.ofString "put"), (.str (.ofString "put") 1170), (.ref 740)⟩, ⟨PyData.keyHash P (.ofString "list_of"), (.str (.ofString "list_of") 1178), (.ref 747)⟩, ⟨PyData.keyHash P (.ofString "cancel"), (.str (.ofString "cancel") 1189), (.ref 754)⟩, ⟨PyData.keyHash P (.ofString "time_of"), (.str (.ofString "time_of") 1197), (.ref 761)⟩, ⟨PyData.keyHash P (.ofString "next_time"), (.str (.ofString "next_time") 1204), (.ref 768)⟩, ⟨PyData.keyHash P (.ofString "due"), (.str (.ofString "due") 1210), (.ref 773)⟩, ⟨PyData.keyHash P (.ofString "keys_until"), (.str (.ofString "keys_until") 1220), (.ref 780)⟩, ⟨PyData.keyHash P (.ofString "__static_attributes__"), (.str (.ofString "__static_attributes__") 1227), (.ref 781)⟩, ⟨PyData.keyHash P (.ofString "__dict__"), (.str (.ofString "__dict__") 1229), (.ref 784)⟩, ⟨PyData.keyHash P (.ofString "__weakref__"), (.str (.ofString "__weakref__") 1231), (.ref 785)⟩, ⟨PyData.keyHash P (.ofString "__doc__"), (.str (.ofString "__doc__") 1232), .none⟩] 4), #[]⟩
noncomputable def o783 (P : Params) : Obj := ⟨(.type "type"), none, (.cls ⟨(.ofString "Wheel"), [(.type "object")], [(.ref 783), (.type "object")], 782, (.ofString "Wheel"), true, [], [], false, none, false⟩), #[none, none, (some (.str (.ofString "Wheel") 1143)), (some (.str (.ofString "Wheel") 1151)), (some (.builtin "object.__new__")), (some (.bool true))]⟩
noncomputable def o800 (P : Params) : Obj := ⟨(.type "code"), none, (.fields #[(.str (.ofString "__init__") 1253), (.str (.ofString "Limits.__init__") 1254), (.str (.ofString "/claim/cut.py") 1255), (.int (481) 0), (.int (11) 0), (.int (0) 0), (.int (0) 0), (.int (3) 0), (.ref 795), (.bool true), (.int (181) 0), (.ref 796), .none, (.ref 797), (.ref 798), (.ref 799), (.int (1267) 0), (.int (481) 0), (.str (.ofString "/claim/cut.py") 1268)]), #[]⟩
noncomputable def o801 (P : Params) : Obj := ⟨(.type "function"), none, (.func ⟨(.ofString "__init__"), (.ofString "Limits.__init__"), a801P.1, .stmts b801P.1, s801P.1, 3, [], .none, .none, .none, (.str (.ofString "thinstack.tcb") 1235), none, (.ref 800), .none, 0⟩), #[]⟩
noncomputable def o803 (P : Params) : Obj := ⟨(.type "dict"), none, (.dict #[⟨PyData.keyHash P (.ofString "__module__"), (.str (.ofString "__module__") 1248), (.str (.ofString "thinstack.tcb") 1235)⟩, ⟨PyData.keyHash P (.ofString "__firstlineno__"), (.str (.ofString "__firstlineno__") 1252), (.int (479) 1251)⟩, ⟨PyData.keyHash P (.ofString "__init__"), (.str (.ofString "__init__") 1269), (.ref 801)⟩, ⟨PyData.keyHash P (.ofString "__static_attributes__"), (.str (.ofString "__static_attributes__") 1280), (.ref 802)⟩, ⟨PyData.keyHash P (.ofString "__dict__"), (.str (.ofString "__dict__") 1282), (.ref 805)⟩, ⟨PyData.keyHash P (.ofString "__weakref__"), (.str (.ofString "__weakref__") 1284), (.ref 806)⟩, ⟨PyData.keyHash P (.ofString "__doc__"), (.str (.ofString "__doc__") 1285), .none⟩] 4), #[]⟩
noncomputable def o804 (P : Params) : Obj := ⟨(.type "type"), none, (.cls ⟨(.ofString "Limits"), [(.type "object")], [(.ref 804), (.type "object")], 803, (.ofString "Limits"), true, [], [], false, none, false⟩), #[none, none, (some (.str (.ofString "Limits") 1241)), (some (.str (.ofString "Limits") 1249)), (some (.builtin "object.__new__")), (some (.bool true))]⟩
noncomputable def o814 (P : Params) : Obj := ⟨(.type "code"), none, (.fields #[(.str (.ofString "clock_of") 1288), (.str (.ofString "clock_of") 1289), (.str (.ofString "/claim/cut.py") 1290), (.int (492) 0), (.int (1) 0), (.int (0) 0), (.int (0) 0), (.int (3) 0), (.ref 809), (.bool true), (.int (181) 0), (.ref 810), .none, (.ref 811), (.ref 812), (.ref 813), (.int (1293) 0), (.int (492) 0), (.str (.ofString "/claim/cut.py") 1294)]), #[]⟩
noncomputable def o815 (P : Params) : Obj := ⟨(.type "function"), none, (.func ⟨(.ofString "clock_of"), (.ofString "clock_of"), a815P.1, .stmts b815P.1, s815P.1, 3, [], .none, .none, .none, (.str (.ofString "thinstack.tcb") 1235), none, (.ref 814), .none, 0⟩), #[]⟩
noncomputable def o828 (P : Params) : Obj := ⟨(.type "code"), none, (.fields #[(.str (.ofString "__init__") 1308), (.str (.ofString "Tcb.__init__") 1309), (.str (.ofString "/claim/cut.py") 1310), (.int (497) 0), (.int (5) 0), (.int (0) 0), (.int (0) 0), (.int (3) 0), (.ref 823), (.bool true), (.int (181) 0), (.ref 824), .none, (.ref 825), (.ref 826), (.ref 827), (.int (1316) 0), (.int (497) 0), (.str (.ofString "/claim/cut.py") 1317)]), #[]⟩
noncomputable def o829 (P : Params) : Obj := ⟨(.type "function"), none, (.func ⟨(.ofString "__init__"), (.ofString "Tcb.__init__"), a829P.1, .stmts b829P.1, s829P.1, 3, [], .none, .none, .none, (.str (.ofString "thinstack.tcb") 1235), none, (.ref 828), .none, 0⟩), #[]⟩
noncomputable def o835 (P : Params) : Obj := ⟨(.type "code"), none, (.fields #[(.str (.ofString "window_now") 1319), (.str (.ofString "Tcb.window_now") 1320), (.str (.ofString "/claim/cut.py") 1321), (.int (513) 0), (.int (1) 0), (.int (0) 0), (.int (0) 0), (.int (3) 0), (.ref 830), (.bool true), (.int (181) 0), (.ref 831), .none, (.ref 832), (.ref 833), (.ref 834), (.int (1323) 0), (.int (513) 0), (.str (.ofString "/claim/cut.py") 1324)]), #[]⟩
noncomputable def o836 (P : Params) : Obj := ⟨(.type "function"), none, (.func ⟨(.ofString "window_now"), (.ofString "Tcb.window_now"), a836P.1, .stmts b836P.1, s836P.1, 3, [], .none, .none, .none, (.str (.ofString "thinstack.tcb") 1235), none, (.ref 835), .none, 0⟩), #[]⟩
noncomputable def o837 (P : Params) : Obj := ⟨(.type "tuple"), none, (.seq #[(.bytes #[] 1326)] 0), #[]⟩
noncomputable def o843 (P : Params) : Obj := ⟨(.type "code"), none, (.fields #[(.str (.ofString "make") 1327), (.str (.ofString "Tcb.make") 1328), (.str (.ofString "/claim/cut.py") 1329), (.int (518) 0), (.int (4) 0), (.int (0) 0), (.int (0) 0), (.int (3) 0), (.ref 838), (.bool true), (.int (181) 0), (.ref 839), .none, (.ref 840), (.ref 841), (.ref 842), (.int (1337) 0), (.int (518) 0), (.str (.ofString "/claim/cut.py") 1338)]), #[]⟩
noncomputable def o844 (P : Params) : Obj := ⟨(.type "function"), none, (.func ⟨(.ofString "make"), (.ofString "Tcb.make"), a844P.1, .stmts b844P.1, s844P.1, 3, [], (.ref 837), .none, .none, (.str (.ofString "thinstack.tcb") 1235), none, (.ref 843), .none, 0⟩), #[]⟩
noncomputable def o846 (P : Params) : Obj := ⟨(.type "dict"), none, (.dict #[⟨PyData.keyHash P (.ofString "__module__"), (.str (.ofString "__module__") 1303), (.str (.ofString "thinstack.tcb") 1235)⟩, ⟨PyData.keyHash P (.ofString "__firstlineno__"), (.str (.ofString "__firstlineno__") 1307), (.int (495) 1306)⟩, ⟨PyData.keyHash P (.ofString "__init__"), (.str (.ofString "__init__") 1318), (.ref 829)⟩, ⟨PyData.keyHash P (.ofString "window_now"), (.str (.ofString "window_now") 1325), (.ref 836)⟩, ⟨PyData.keyHash P (.ofString "make"), (.str (.ofString "make") 1339), (.ref 844)⟩, ⟨PyData.keyHash P (.ofString "__static_attributes__"), (.str (.ofString "__static_attributes__") 1354), (.ref 845)⟩, ⟨PyData.keyHash P (.ofString "__dict__"), (.str (.ofString "__dict__") 1356), (.ref 848)⟩, ⟨PyData.keyHash P (.ofString "__weakref__"), (.str (.ofString "__weakref__") 1358), (.ref 849)⟩, ⟨PyData.keyHash P (.ofString "__doc__"), (.str (.ofString "__doc__") 1359), .none⟩] 4), #[]⟩
noncomputable def o847 (P : Params) : Obj := ⟨(.type "type"), none, (.cls ⟨(.ofString "Tcb"), [(.type "object")], [(.ref 847), (.type "object")], 846, (.ofString "Tcb"), true, [], [], false, none, false⟩), #[none, none, (some (.str (.ofString "Tcb") 1296)), (some (.str (.ofString "Tcb") 1304)), (some (.builtin "object.__new__")), (some (.bool true))]⟩
noncomputable def o864 (P : Params) : Obj := ⟨(.type "code"), none, (.fields #[(.str (.ofString "__init__") 1376), (.str (.ofString "Assembly.__init__") 1377), (.str (.ofString "/claim/cut.py") 1378), (.int (531) 0), (.int (2) 0), (.int (0) 0), (.int (0) 0), (.int (3) 0), (.ref 859), (.bool true), (.int (181) 0), (.ref 860), .none, (.ref 861), (.ref 862), (.ref 863), (.int (1381) 0), (.int (531) 0), (.str (.ofString "/claim/cut.py") 1382)]), #[]⟩
noncomputable def o865 (P : Params) : Obj := ⟨(.type "function"), none, (.func ⟨(.ofString "__init__"), (.ofString "Assembly.__init__"), a865P.1, .stmts b865P.1, s865P.1, 3, [], .none, .none, .none, (.str (.ofString "thinstack.assembly") 1362), none, (.ref 864), .none, 0⟩), #[]⟩
noncomputable def o883 (P : Params) : Obj := ⟨(.type "code"), none, (.fields #[(.str (.ofString "offset") 1397), (.str (.ofString "Assembly.offset") 1398), (.str (.ofString "/claim/cut.py") 1399), (.int (541) 0), (.int (3) 0), (.int (0) 0), (.int (0) 0), (.int (3) 0), (.ref 878), (.bool true), (.int (181) 0), (.ref 879), .none, (.ref 880), (.ref 881), (.ref 882), (.int (1403) 0), (.int (541) 0), (.str (.ofString "/claim/cut.py") 1404)]), #[]⟩
noncomputable def o884 (P : Params) : Obj := ⟨(.type "function"), none, (.func ⟨(.ofString "offset"), (.ofString "Assembly.offset"), a884P.1, .stmts b884P.1, s884P.1, 3, [], .none, .none, .none, (.str (.ofString "thinstack.assembly") 1362), none, (.ref 883), .none, 0⟩), #[]⟩
noncomputable def o890 (P : Params) : Obj := ⟨(.type "code"), none, (.fields #[(.str (.ofString "put") 1406), (.str (.ofString "Assembly.put") 1407), (.str (.ofString "/claim/cut.py") 1408), (.int (546) 0), (.int (4) 0), (.int (0) 0), (.int (0) 0), (.int (3) 0), (.ref 885), (.bool true), (.int (181) 0), (.ref 886), .none, (.ref 887), (.ref 888), (.ref 889), (.int (1415) 0), (.int (546) 0), (.str (.ofString "/claim/cut.py") 1416)]), #[]⟩
noncomputable def o891 (P : Params) : Obj := ⟨(.type "function"), none, (.func ⟨(.ofString "put"), (.ofString "Assembly.put"), a891P.1, .stmts b891P.1, s891P.1, 3, [], .none, .none, .none, (.str (.ofString "thinstack.assembly") 1362), none, (.ref 890), .none, 0⟩), #[]⟩
noncomputable def o897 (P : Params) : Obj := ⟨(.type "code"), none, (.fields #[(.str (.ofString "missing") 1418), (.str (.ofString "Assembly.missing") 1419), (.str (.ofString "/claim/cut.py") 1420), (.int (556) 0), (.int (4) 0), (.int (0) 0), (.int (0) 0), (.int (3) 0), (.ref 892), (.bool true), (.int (181) 0), (.ref 893), .none, (.ref 894), (.ref 895), (.ref 896), (.int (1432) 0), (.int (556) 0), (.str (.ofString "/claim/cut.py") 1433)]), #[]⟩
noncomputable def o898 (P : Params) : Obj := ⟨(.type "function"), none, (.func ⟨(.ofString "missing"), (.ofString "Assembly.missing"), a898P.1, .stmts b898P.1, s898P.1, 3, [], .none, .none, .none, (.str (.ofString "thinstack.assembly") 1362), none, (.ref 897), .none, 0⟩), #[]⟩
noncomputable def o904 (P : Params) : Obj := ⟨(.type "code"), none, (.fields #[(.str (.ofString "merged") 1435), (.str (.ofString "Assembly.merged") 1436), (.str (.ofString "/claim/cut.py") 1437), (.int (573) 0), (.int (3) 0), (.int (0) 0), (.int (0) 0), (.int (3) 0), (.ref 899), (.bool true), (.int (181) 0), (.ref 900), .none, (.ref 901), (.ref 902), (.ref 903), (.int (1446) 0), (.int (573) 0), (.str (.ofString "/claim/cut.py") 1447)]), #[]⟩
noncomputable def o905 (P : Params) : Obj := ⟨(.type "function"), none, (.func ⟨(.ofString "merged"), (.ofString "Assembly.merged"), a905P.1, .stmts b905P.1, s905P.1, 3, [], .none, .none, .none, (.str (.ofString "thinstack.assembly") 1362), none, (.ref 904), .none, 0⟩), #[]⟩
noncomputable def o911 (P : Params) : Obj := ⟨(.type "code"), none, (.fields #[(.str (.ofString "joined") 1449), (.str (.ofString "Assembly.joined") 1450), (.str (.ofString "/claim/cut.py") 1451), (.int (582) 0), (.int (3) 0), (.int (0) 0), (.int (0) 0), (.int (3) 0), (.ref 906), (.bool true), (.int (181) 0), (.ref 907), .none, (.ref 908), (.ref 909), (.ref 910), (.int (1461) 0), (.int (582) 0), (.str (.ofString "/claim/cut.py") 1462)]), #[]⟩
noncomputable def o912 (P : Params) : Obj := ⟨(.type "function"), none, (.func ⟨(.ofString "joined"), (.ofString "Assembly.joined"), a912P.1, .stmts b912P.1, s912P.1, 3, [], .none, .none, .none, (.str (.ofString "thinstack.assembly") 1362), none, (.ref 911), .none, 0⟩), #[]⟩
noncomputable def o918 (P : Params) : Obj := ⟨(.type "code"), none, (.fields #[(.str (.ofString "forget") 1464), (.str (.ofString "Assembly.forget") 1465), (.str (.ofString "/claim/cut.py") 1466), (.int (593) 0), (.int (2) 0), (.int (0) 0), (.int (0) 0), (.int (3) 0), (.ref 913), (.bool true), (.int (181) 0), (.ref 914), .none, (.ref 915), (.ref 916), (.ref 917), (.int (1472) 0), (.int (593) 0), (.str (.ofString "/claim/cut.py") 1473)]), #[]⟩
noncomputable def o919 (P : Params) : Obj := ⟨(.type "function"), none, (.func ⟨(.ofString "forget"), (.ofString "Assembly.forget"), a919P.1, .stmts b919P.1, s919P.1, 3, [], .none, .none, .none, (.str (.ofString "thinstack.assembly") 1362), none, (.ref 918), .none, 0⟩), #[]⟩
noncomputable def o925 (P : Params) : Obj := ⟨(.type "code"), none, (.fields #[(.str (.ofString "take") 1475), (.str (.ofString "Assembly.take") 1476), (.str (.ofString "/claim/cut.py") 1477), (.int (604) 0), (.int (2) 0), (.int (0) 0), (.int (0) 0), (.int (3) 0), (.ref 920), (.bool true), (.int (181) 0), (.ref 921), .none, (.ref 922), (.ref 923), (.ref 924), (.int (1480) 0), (.int (604) 0), (.str (.ofString "/claim/cut.py") 1481)]), #[]⟩
noncomputable def o926 (P : Params) : Obj := ⟨(.type "function"), none, (.func ⟨(.ofString "take"), (.ofString "Assembly.take"), a926P.1, .stmts b926P.1, s926P.1, 3, [], .none, .none, .none, (.str (.ofString "thinstack.assembly") 1362), none, (.ref 925), .none, 0⟩), #[]⟩
noncomputable def o942 (P : Params) : Obj := ⟨(.type "dict"), none, (.dict #[⟨PyData.keyHash P (.ofString "__module__"), (.str (.ofString "__module__") 1371), (.str (.ofString "thinstack.assembly") 1362)⟩, ⟨PyData.keyHash P (.ofString "__firstlineno__"), (.str (.ofString "__firstlineno__") 1375), (.int (529) 1374)⟩, ⟨PyData.keyHash P (.ofString "__init__"), (.str (.ofString "__init__") 1383), (.ref 865)⟩, ⟨PyData.keyHash P (.ofString "size"), (.str (.ofString "size") 1389), (.ref 870)⟩, ⟨PyData.keyHash P (.ofString "is_empty"), (.str (.ofString "is_empty") 1396), (.ref 877)⟩, ⟨PyData.keyHash P (.ofString "offset"), (.str (.ofString "offset") 1405), (.ref 884)⟩, ⟨PyData.keyHash P (.ofString "put"), (.str (.ofString "put") 1417), (.ref 891)⟩, ⟨PyData.keyHash P (.ofString "missing"), (.str (.ofString "missing") 1434), (.ref 898)⟩, ⟨PyData.keyHash P (.ofString "merged"), (.str (.ofString "merged") 1448), (.ref 905)⟩, ⟨PyData.keyHash P (.ofString "joined"), (.str (.ofString "joined") 1463), (.ref 912)⟩, ⟨PyData.keyHash P (.ofString "forget"), (.str (.ofString "forget") 1474), (.ref 919)⟩, ⟨PyData.keyHash P (.ofString "take"), (.str (.ofString "take") 1482), (.ref 926)⟩, ⟨PyData.keyHash P (.ofString "holes"), (.str (.ofString "holes") 1495), (.ref 933)⟩, ⟨PyData.keyHash P (.ofString "cut_behind"), (.str (.ofString "cut_behind") 1509), (.ref 940)⟩, ⟨PyData.keyHash P (.ofString "__static_attributes__"), (.str (.ofString "__static_attributes__") 1512), (.ref 941)⟩, ⟨PyData.keyHash P (.ofString "__dict__"), (.str (.ofString "__dict__") 1514), (.ref 944)⟩, ⟨PyData.keyHash P (.ofString "__weakref__"), (.str (.ofString "__weakref__") 1516), (.ref 945)⟩, ⟨PyData.keyHash P (.ofString "__doc__"), (.str (.ofString "__doc__") 1517), .none⟩] 4), #[]⟩
noncomputable def o943 (P : Params) : Obj := ⟨(.type "type"), none, (.cls ⟨(.ofString "Assembly"), [(.type "object")], [(.ref 943), (.type "object")], 942, (.ofString "Assembly"), true, [], [], false, none, false⟩), #[none, none, (some (.str (.ofString "Assembly") 1364)), (some (.str (.ofString "Assembly") 1372)), (some (.builtin "object.__new__")), (some (.bool true))]⟩
noncomputable def o955 (P : Params) : Obj := ⟨(.type "tuple"), none, (.seq #[(.int (1) 1534)] 0), #[]⟩
noncomputable def o961 (P : Params) : Obj := ⟨(.type "code"), none, (.fields #[(.str (.ofString "__init__") 1535), (.str (.ofString "Receiver.__init__") 1536), (.str (.ofString "/claim/cut.py") 1537), (.int (630) 0), (.int (5) 0), (.int (0) 0), (.int (0) 0), (.int (3) 0), (.ref 956), (.bool true), (.int (181) 0), (.ref 957), .none, (.ref 958), (.ref 959), (.ref 960), (.int (1543) 0), (.int (630) 0), (.str (.ofString "/claim/cut.py") 1544)]), #[]⟩
noncomputable def o962 (P : Params) : Obj := ⟨(.type "function"), none, (.func ⟨(.ofString "__init__"), (.ofString "Receiver.__init__"), a962P.1, .stmts b962P.1, s962P.1, 3, [], (.ref 955), .none, .none, (.str (.ofString "thinstack.receiver") 1520), none, (.ref 961), .none, 0⟩), #[]⟩
noncomputable def o968 (P : Params) : Obj := ⟨(.type "code"), none, (.fields #[(.str (.ofString "free_edge") 1546), (.str (.ofString "Receiver.free_edge") 1547), (.str (.ofString "/claim/cut.py") 1548), (.int (642) 0), (.int (1) 0), (.int (0) 0), (.int (0) 0), (.int (3) 0), (.ref 963), (.bool true), (.int (181) 0), (.ref 964), .none, (.ref 965), (.ref 966), (.ref 967), (.int (1550) 0), (.int (642) 0), (.str (.ofString "/claim/cut.py") 1551)]), #[]⟩
noncomputable def o969 (P : Params) : Obj := ⟨(.type "function"), none, (.func ⟨(.ofString "free_edge"), (.ofString "Receiver.free_edge"), a969P.1, .stmts b969P.1, s969P.1, 3, [], .none, .none, .none, (.str (.ofString "thinstack.receiver") 1520), none, (.ref 968), .none, 0⟩), #[]⟩
noncomputable def o975 (P : Params) : Obj := ⟨(.type "code"), none, (.fields #[(.str (.ofString "should_tell") 1553), (.str (.ofString "Receiver.should_tell") 1554), (.str (.ofString "/claim/cut.py") 1555), (.int (645) 0), (.int (2) 0), (.int (0) 0), (.int (0) 0), (.int (3) 0), (.ref 970), (.bool true), (.int (181) 0), (.ref 971), .none, (.ref 972), (.ref 973), (.ref 974), (.int (1558) 0), (.int (645) 0), (.str (.ofString "/claim/cut.py") 1559)]), #[]⟩
noncomputable def o976 (P : Params) : Obj := ⟨(.type "function"), none, (.func ⟨(.ofString "should_tell"), (.ofString "Receiver.should_tell"), a976P.1, .stmts b976P.1, s976P.1, 3, [], .none, .none, .none, (.str (.ofString "thinstack.receiver") 1520), none, (.ref 975), .none, 0⟩), #[]⟩
noncomputable def o982 (P : Params) : Obj := ⟨(.type "code"), none, (.fields #[(.str (.ofString "told_window") 1561), (.str (.ofString "Receiver.told_window") 1562), (.str (.ofString "/claim/cut.py") 1563), (.int (650) 0), (.int (1) 0), (.int (0) 0), (.int (0) 0), (.int (3) 0), (.ref 977), (.bool true), (.int (181) 0), (.ref 978), .none, (.ref 979), (.ref 980), (.ref 981), (.int (1565) 0), (.int (650) 0), (.str (.ofString "/claim/cut.py") 1566)]), #[]⟩
noncomputable def o983 (P : Params) : Obj := ⟨(.type "function"), none, (.func ⟨(.ofString "told_window"), (.ofString "Receiver.told_window"), a983P.1, .stmts b983P.1, s983P.1, 3, [], .none, .none, .none, (.str (.ofString "thinstack.receiver") 1520), none, (.ref 982), .none, 0⟩), #[]⟩
noncomputable def o989 (P : Params) : Obj := ⟨(.type "code"), none, (.fields #[(.str (.ofString "window") 1568), (.str (.ofString "Receiver.window") 1569), (.str (.ofString "/claim/cut.py") 1570), (.int (655) 0), (.int (1) 0), (.int (0) 0), (.int (0) 0), (.int (3) 0), (.ref 984), (.bool true), (.int (181) 0), (.ref 985), .none, (.ref 986), (.ref 987), (.ref 988), (.int (1572) 0), (.int (655) 0), (.str (.ofString "/claim/cut.py") 1573)]), #[]⟩
noncomputable def o990 (P : Params) : Obj := ⟨(.type "function"), none, (.func ⟨(.ofString "window"), (.ofString "Receiver.window"), a990P.1, .stmts b990P.1, s990P.1, 3, [], .none, .none, .none, (.str (.ofString "thinstack.receiver") 1520), none, (.ref 989), .none, 0⟩), #[]⟩
noncomputable def o996 (P : Params) : Obj := ⟨(.type "code"), none, (.fields #[(.str (.ofString "arrive") 1575), (.str (.ofString "Receiver.arrive") 1576), (.str (.ofString "/claim/cut.py") 1577), (.int (660) 0), (.int (4) 0), (.int (0) 0), (.int (0) 0), (.int (3) 0), (.ref 991), (.bool true), (.int (181) 0), (.ref 992), .none, (.ref 993), (.ref 994), (.ref 995), (.int (1585) 0), (.int (660) 0), (.str (.ofString "/claim/cut.py") 1586)]), #[]⟩
noncomputable def o997 (P : Params) : Obj := ⟨(.type "function"), none, (.func ⟨(.ofString "arrive"), (.ofString "Receiver.arrive"), a997P.1, .stmts b997P.1, s997P.1, 3, [], .none, .none, .none, (.str (.ofString "thinstack.receiver") 1520), none, (.ref 996), .none, 0⟩), #[]⟩
noncomputable def o1003 (P : Params) : Obj := ⟨(.type "code"), none, (.fields #[(.str (.ofString "let_in") 1588), (.str (.ofString "Receiver.let_in") 1589), (.str (.ofString "/claim/cut.py") 1590), (.int (672) 0), (.int (3) 0), (.int (0) 0), (.int (0) 0), (.int (3) 0), (.ref 998), (.bool true), (.int (181) 0), (.ref 999), .none, (.ref 1000), (.ref 1001), (.ref 1002), (.int (1595) 0), (.int (672) 0), (.str (.ofString "/claim/cut.py") 1596)]), #[]⟩
noncomputable def o1004 (P : Params) : Obj := ⟨(.type "function"), none, (.func ⟨(.ofString "let_in"), (.ofString "Receiver.let_in"), a1004P.1, .stmts b1004P.1, s1004P.1, 3, [], .none, .none, .none, (.str (.ofString "thinstack.receiver") 1520), none, (.ref 1003), .none, 0⟩), #[]⟩
noncomputable def o1024 (P : Params) : Obj := ⟨(.type "code"), none, (.fields #[(.str (.ofString "gather") 1615), (.str (.ofString "Receiver.gather") 1616), (.str (.ofString "/claim/cut.py") 1617), (.int (688) 0), (.int (1) 0), (.int (0) 0), (.int (0) 0), (.int (3) 0), (.ref 1019), (.bool true), (.int (181) 0), (.ref 1020), .none, (.ref 1021), (.ref 1022), (.ref 1023), (.int (1620) 0), (.int (688) 0), (.str (.ofString "/claim/cut.py") 1621)]), #[]⟩
noncomputable def o1025 (P : Params) : Obj := ⟨(.type "function"), none, (.func ⟨(.ofString "gather"), (.ofString "Receiver.gather"), a1025P.1, .stmts b1025P.1, s1025P.1, 3, [], .none, .none, .none, (.str (.ofString "thinstack.receiver") 1520), none, (.ref 1024), .none, 0⟩), #[]⟩
noncomputable def o1045 (P : Params) : Obj := ⟨(.type "code"), none, (.fields #[(.str (.ofString "read") 1637), (.str (.ofString "Receiver.read") 1638), (.str (.ofString "/claim/cut.py") 1639), (.int (705) 0), (.int (2) 0), (.int (0) 0), (.int (0) 0), (.int (3) 0), (.ref 1040), (.bool true), (.int (181) 0), (.ref 1041), .none, (.ref 1042), (.ref 1043), (.ref 1044), (.int (1643) 0), (.int (705) 0), (.str (.ofString "/claim/cut.py") 1644)]), #[]⟩
noncomputable def o1046 (P : Params) : Obj := ⟨(.type "function"), none, (.func ⟨(.ofString "read"), (.ofString "Receiver.read"), a1046P.1, .stmts b1046P.1, s1046P.1, 3, [], .none, .none, .none, (.str (.ofString "thinstack.receiver") 1520), none, (.ref 1045), .none, 0⟩), #[]⟩
noncomputable def o1076 (P : Params) : Obj := ⟨(.type "dict"), none, (.dict #[⟨PyData.keyHash P (.ofString "__module__"), (.str (.ofString "__module__") 1529), (.str (.ofString "thinstack.receiver") 1520)⟩, ⟨PyData.keyHash P (.ofString "__firstlineno__"), (.str (.ofString "__firstlineno__") 1533), (.int (628) 1532)⟩, ⟨PyData.keyHash P (.ofString "__init__"), (.str (.ofString "__init__") 1545), (.ref 962)⟩, ⟨PyData.keyHash P (.ofString "free_edge"), (.str (.ofString "free_edge") 1552), (.ref 969)⟩, ⟨PyData.keyHash P (.ofString "should_tell"), (.str (.ofString "should_tell") 1560), (.ref 976)⟩, ⟨PyData.keyHash P (.ofString "told_window"), (.str (.ofString "told_window") 1567), (.ref 983)⟩, ⟨PyData.keyHash P (.ofString "window"), (.str (.ofString "window") 1574), (.ref 990)⟩, ⟨PyData.keyHash P (.ofString "arrive"), (.str (.ofString "arrive") 1587), (.ref 997)⟩, ⟨PyData.keyHash P (.ofString "let_in"), (.str (.ofString "let_in") 1597), (.ref 1004)⟩, ⟨PyData.keyHash P (.ofString "note_fin"), (.str (.ofString "note_fin") 1605), (.ref 1011)⟩, ⟨PyData.keyHash P (.ofString "ahead_of_fin"), (.str (.ofString "ahead_of_fin") 1614), (.ref 1018)⟩, ⟨PyData.keyHash P (.ofString "gather"), (.str (.ofString "gather") 1622), (.ref 1025)⟩, ⟨PyData.keyHash P (.ofString "has_holes"), (.str (.ofString "has_holes") 1629), (.ref 1032)⟩, ⟨PyData.keyHash P (.ofString "available"), (.str (.ofString "available") 1636), (.ref 1039)⟩, ⟨PyData.keyHash P (.ofString "read"), (.str (.ofString "read") 1645), (.ref 1046)⟩, ⟨PyData.keyHash P (.ofString "is_over"), (.str (.ofString "is_over") 1652), (.ref 1053)⟩, ⟨PyData.keyHash P (.ofString "read_place"), (.str (.ofString "read_place") 1660), (.ref 1060)⟩, ⟨PyData.keyHash P (.ofString "urgent"), (.str (.ofString "urgent") 1668), (.ref 1067)⟩, ⟨PyData.keyHash P (.ofString "urgent_left"), (.str (.ofString "urgent_left") 1675), (.ref 1074)⟩, ⟨PyData.keyHash P (.ofString "__static_attributes__"), (.str (.ofString "__static_attributes__") 1686), (.ref 1075)⟩, ⟨PyData.keyHash P (.ofString "__dict__"), (.str (.ofString "__dict__") 1688), (.ref 1078)⟩, ⟨PyData.keyHash P (.ofString "__weakref__"), (.str (.ofString "__weakref__") 1690), (.ref 1079)⟩, ⟨PyData.keyHash P (.ofString "__doc__"), (.str (.ofString "__doc__") 1691), .none⟩] 4), #[]⟩
noncomputable def o1077 (P : Params) : Obj := ⟨(.type "type"), none, (.cls ⟨(.ofString "Receiver"), [(.type "object")], [(.ref 1077), (.type "object")], 1076, (.ofString "Receiver"), true, [], [], false, none, false⟩), #[none, none, (some (.str (.ofString "Receiver") 1522)), (some (.str (.ofString "Receiver") 1530)), (some (.builtin "object.__new__")), (some (.bool true))]⟩
noncomputable def o1087 (P : Params) : Obj := ⟨(.type "code"), none, (.fields #[(.str (.ofString "_law_pool") 1696), (.str (.ofString "_law_pool") 1697), (.str (.ofString "/claim/cut.py") 1698), (.int (725) 0), (.int (2) 0), (.int (0) 0), (.int (0) 0), (.int (3) 0), (.ref 1082), (.bool true), (.int (181) 0), (.ref 1083), .none, (.ref 1084), (.ref 1085), (.ref 1086), (.int (1704) 0), (.int (725) 0), (.str (.ofString "/claim/cut.py") 1705)]), #[]⟩
noncomputable def o1088 (P : Params) : Obj := ⟨(.type "function"), none, (.func ⟨(.ofString "_law_pool"), (.ofString "_law_pool"), a1088P.1, .stmts b1088P.1, s1088P.1, 3, [], .none, .none, .none, (.str (.ofString "law_on0348_01") 1694), none, (.ref 1087), .none, 0⟩), #[]⟩
noncomputable def o1094 (P : Params) : Obj := ⟨(.type "code"), none, (.fields #[(.str (.ofString "_law_take") 1707), (.str (.ofString "_law_take") 1708), (.str (.ofString "/claim/cut.py") 1709), (.int (730) 0), (.int (2) 0), (.int (0) 0), (.int (0) 0), (.int (3) 0), (.ref 1089), (.bool true), (.int (181) 0), (.ref 1090), .none, (.ref 1091), (.ref 1092), (.ref 1093), (.int (1713) 0), (.int (730) 0), (.str (.ofString "/claim/cut.py") 1714)]), #[]⟩
noncomputable def o1095 (P : Params) : Obj := ⟨(.type "function"), none, (.func ⟨(.ofString "_law_take"), (.ofString "_law_take"), a1095P.1, .stmts b1095P.1, s1095P.1, 3, [], .none, .none, .none, (.str (.ofString "law_on0348_01") 1694), none, (.ref 1094), .none, 0⟩), #[]⟩
noncomputable def o1101 (P : Params) : Obj := ⟨(.type "code"), none, (.fields #[(.str (.ofString "_law_one") 1716), (.str (.ofString "_law_one") 1717), (.str (.ofString "/claim/cut.py") 1718), (.int (737) 0), (.int (2) 0), (.int (0) 0), (.int (0) 0), (.int (3) 0), (.ref 1096), (.bool true), (.int (181) 0), (.ref 1097), .none, (.ref 1098), (.ref 1099), (.ref 1100), (.int (1721) 0), (.int (737) 0), (.str (.ofString "/claim/cut.py") 1722)]), #[]⟩
noncomputable def o1102 (P : Params) : Obj := ⟨(.type "function"), none, (.func ⟨(.ofString "_law_one"), (.ofString "_law_one"), a1102P.1, .stmts b1102P.1, s1102P.1, 3, [], .none, .none, .none, (.str (.ofString "law_on0348_01") 1694), none, (.ref 1101), .none, 0⟩), #[]⟩
noncomputable def o1108 (P : Params) : Obj := ⟨(.type "code"), none, (.fields #[(.str (.ofString "_law_limits") 1724), (.str (.ofString "_law_limits") 1725), (.str (.ofString "/claim/cut.py") 1726), (.int (739) 0), (.int (1) 0), (.int (0) 0), (.int (0) 0), (.int (3) 0), (.ref 1103), (.bool true), (.int (181) 0), (.ref 1104), .none, (.ref 1105), (.ref 1106), (.ref 1107), (.int (1731) 0), (.int (739) 0), (.str (.ofString "/claim/cut.py") 1732)]), #[]⟩
noncomputable def o1109 (P : Params) : Obj := ⟨(.type "function"), none, (.func ⟨(.ofString "_law_limits"), (.ofString "_law_limits"), a1109P.1, .stmts b1109P.1, s1109P.1, 3, [], .none, .none, .none, (.str (.ofString "law_on0348_01") 1694), none, (.ref 1108), .none, 0⟩), #[]⟩
noncomputable def o1115 (P : Params) : Obj := ⟨(.type "code"), none, (.fields #[(.str (.ofString "_law_clock_right") 1734), (.str (.ofString "_law_clock_right") 1735), (.str (.ofString "/claim/cut.py") 1736), (.int (744) 0), (.int (4) 0), (.int (0) 0), (.int (0) 0), (.int (3) 0), (.ref 1110), (.bool true), (.int (181) 0), (.ref 1111), .none, (.ref 1112), (.ref 1113), (.ref 1114), (.int (1743) 0), (.int (744) 0), (.str (.ofString "/claim/cut.py") 1744)]), #[]⟩
noncomputable def o1116 (P : Params) : Obj := ⟨(.type "function"), none, (.func ⟨(.ofString "_law_clock_right"), (.ofString "_law_clock_right"), a1116P.1, .stmts b1116P.1, s1116P.1, 3, [], .none, .none, .none, (.str (.ofString "law_on0348_01") 1694), none, (.ref 1115), .none, 0⟩), #[]⟩
noncomputable def o1122 (P : Params) : Obj := ⟨(.type "code"), none, (.fields #[(.str (.ofString "_law_segment_right") 1746), (.str (.ofString "_law_segment_right") 1747), (.str (.ofString "/claim/cut.py") 1748), (.int (752) 0), (.int (5) 0), (.int (0) 0), (.int (0) 0), (.int (3) 0), (.ref 1117), (.bool true), (.int (181) 0), (.ref 1118), .none, (.ref 1119), (.ref 1120), (.ref 1121), (.int (1762) 0), (.int (752) 0), (.str (.ofString "/claim/cut.py") 1763)]), #[]⟩
noncomputable def o1123 (P : Params) : Obj := ⟨(.type "function"), none, (.func ⟨(.ofString "_law_segment_right"), (.ofString "_law_segment_right"), a1123P.1, .stmts b1123P.1, s1123P.1, 3, [], .none, .none, .none, (.str (.ofString "law_on0348_01") 1694), none, (.ref 1122), .none, 0⟩), #[]⟩
noncomputable def o1129 (P : Params) : Obj := ⟨(.type "code"), none, (.fields #[(.str (.ofString "_law_round_right") 1765), (.str (.ofString "_law_round_right") 1766), (.str (.ofString "/claim/cut.py") 1767), (.int (773) 0), (.int (3) 0), (.int (0) 0), (.int (0) 0), (.int (3) 0), (.ref 1124), (.bool true), (.int (181) 0), (.ref 1125), .none, (.ref 1126), (.ref 1127), (.ref 1128), (.int (1777) 0), (.int (773) 0), (.str (.ofString "/claim/cut.py") 1778)]), #[]⟩
noncomputable def o1130 (P : Params) : Obj := ⟨(.type "function"), none, (.func ⟨(.ofString "_law_round_right"), (.ofString "_law_round_right"), a1130P.1, .stmts b1130P.1, s1130P.1, 3, [], .none, .none, .none, (.str (.ofString "law_on0348_01") 1694), none, (.ref 1129), .none, 0⟩), #[]⟩
noncomputable def o1136 (P : Params) : Obj := ⟨(.type "code"), none, (.fields #[(.str (.ofString "law") 1780), (.str (.ofString "law") 1781), (.str (.ofString "/claim/cut.py") 1782), (.int (786) 0), (.int (1) 0), (.int (0) 0), (.int (0) 0), (.int (3) 0), (.ref 1131), (.bool true), (.int (181) 0), (.ref 1132), .none, (.ref 1133), (.ref 1134), (.ref 1135), (.int (1797) 0), (.int (786) 0), (.str (.ofString "/claim/cut.py") 1798)]), #[]⟩
noncomputable def o1137 (P : Params) : Obj := ⟨(.type "function"), none, (.func ⟨(.ofString "law"), (.ofString "law"), a1137P.1, .stmts b1137P.1, s1137P.1, 3, [], .none, .none, .none, (.str (.ofString "law_on0348_01") 1694), none, (.ref 1136), .none, 0⟩), #[]⟩
end Mine
end PartHdA
section PartHdD
open PySem PySem.W PyProof.Rows
set_option Elab.async false
set_option maxRecDepth 100000
set_option maxHeartbeats 0
namespace Mine
noncomputable abbrev p0 : Program := PySem.Challenge.pw_on0348_01
noncomputable def lawP : {s : Stmt // stAt pwB 57 = s} := ⟨_, by conv => { lhs; whnf }⟩
noncomputable abbrev lawSt : Stmt := lawP.1
noncomputable def qv : Program := { p0 with main := { p0.main with body := [lawSt] } }
noncomputable def env0 : Env := { scope := p0.main.scope, locals := mainNs, globals := mainNs, cells := [], code := .ref 13, frame := some 14 }
noncomputable def o11 (_ : Params) : Obj := { cls := .type "tuple", data := .seq #[] }
noncomputable def o12 (_ : Params) : Obj := { cls := .none, data := .fields #[] }
noncomputable def o13 (_ : Params) : Obj :=
  { cls := .type "code", data := .fields #[.str (.ofString "<module>") 182, .str (.ofString "<module>") 183, .str (.ofString "/claim/cut.py") 184, .int 1 0, .int 0 0, .int 0 0, .int 0 0, .int 0 0, .ref 11, .bool false, .int 181 0, .ref 12, .none, .none, .none, .none, .int 185 0, .int 1 0, .str (.ofString "/claim/cut.py") 186] }
noncomputable def o14 (_ : Params) : Obj :=
  { cls := .type "frame", slots := #[some (.ref 13), some (.ref 3), some (.ref 3), none, some (.str (.ofString "__main__") 164), none, some (.ref 0)] }
noncomputable def heap0 (P : Params) : Heap :=
  ⟨⟨[boot_o_0 P, boot_o_1 P, boot_o_2 P, boot_o_3 P, boot_o_4 P, boot_o_5 P, boot_o_6 P, boot_o_7 P, boot_o_8 P, boot_o_9 P, boot_o_10 P, o11 P, o12 P, o13 P, o14 P]⟩, {}⟩
noncomputable def tree0 (P : Params) : BT :=
  .node (boot_o_0 P)
    (.node (boot_o_1 P)
      (.node (boot_o_3 P) (.node (boot_o_7 P) .nil .nil) (.node (o11 P) .nil .nil))
      (.node (boot_o_5 P) (.node (boot_o_9 P) .nil .nil) (.node (o13 P) .nil .nil)))
    (.node (boot_o_2 P)
      (.node (boot_o_4 P) (.node (boot_o_8 P) .nil .nil) (.node (o12 P) .nil .nil))
      (.node (boot_o_6 P) (.node (boot_o_10 P) .nil .nil) (.node (o14 P) .nil .nil)))
noncomputable def pos0 : Pos := ⟨0, 0, 0, 0⟩
noncomputable def cE : Code := .body (behindTheImports p0) env0
noncomputable def loose : List PySem.Str := [.ofString "_wall", .ofString "EVERY", .ofString "AckPolicy", .ofString "Congestion", .ofString "plus", .ofString "distance", .ofString "is_before", .ofString "is_at_most", .ofString "latest", .ofString "MOST_SHIFT", .ofString "RetransmitClock", .ofString "RttEstimate", .ofString "StackError", .ofString "SizeError", .ofString "StateError", .ofString "SendQueue", .ofString "PeerWindow", .ofString "Sender", .ofString "put16", .ofString "SYN", .ofString "ACK", .ofString "OPTION_MSS", .ofString "MSS_SIZE", .ofString "Segment", .ofString "check_number", .ofString "mss_option", .ofString "CLOSED", .ofString "Wheel", .ofString "DELAYED", .ofString "MOST_WINDOW", .ofString "Limits", .ofString "clock_of", .ofString "Tcb", .ofString "Assembly", .ofString "Receiver", .ofString "_law_pool", .ofString "_law_take", .ofString "_law_one", .ofString "_law_limits", .ofString "_law_clock_right", .ofString "_law_segment_right", .ofString "_law_round_right"]
noncomputable def ob (r : Option (Flow × SharedT × Code × Pos)) (a : Nat) : Obj := match r with
  | some x => (x.2.1.tree.get a).getD default
  | none => default
noncomputable def grow (T : BT) (f : Nat → Obj) (n : Nat) : Nat → BT
  | 0 => T
  | k + 1 => (grow T f n k).ins (n + k) (f (n + k))
noncomputable def sets (T : BT) : List (Nat × Obj) → BT
  | [] => T
  | x :: r => (sets T r).set x.1 (fun _ => x.2)
theorem te_seg : @segRunT = @Fast.tw10110043849684766642 := Fast.te10110043849684766642
theorem te_tab : @treeTable = @Fast.tw14364793385576792824 := Fast.te14364793385576792824
noncomputable def tr0 (w : World) (_ : OsState) : BT := tree0 w.params
noncomputable def sT0 (w : World) (os : OsState) : SharedT := ⟨tr0 w os, 15, {}, #[], {}, 187, os⟩
noncomputable def v3x0 (P : Params) : Obj := ⟨(.type "dict"), none, (.dict #[⟨PyData.keyHash P (.ofString "__name__"), (.str (.ofString "__name__") 165), (.str (.ofString "thinstack.congestion") 270)⟩, ⟨PyData.keyHash P (.ofString "__doc__"), (.str (.ofString "__doc__") 166), .none⟩, ⟨PyData.keyHash P (.ofString "__package__"), (.str (.ofString "__package__") 167), .none⟩, ⟨PyData.keyHash P (.ofString "__loader__"), (.str (.ofString "__loader__") 168), (.builtin "__main__.__loader__#opaque")⟩, ⟨PyData.keyHash P (.ofString "__spec__"), (.str (.ofString "__spec__") 169), .none⟩, ⟨PyData.keyHash P (.ofString "__annotations__"), (.str (.ofString "__annotations__") 170), (.ref 6)⟩, ⟨PyData.keyHash P (.ofString "__builtins__"), (.str (.ofString "__builtins__") 171), (.ref 4)⟩, ⟨PyData.keyHash P (.ofString "__file__"), (.str (.ofString "__file__") 173), (.str (.ofString "/claim/cut.py") 172)⟩, ⟨PyData.keyHash P (.ofString "__cached__"), (.str (.ofString "__cached__") 174), .none⟩, ⟨PyData.keyHash P (.ofString "_wall"), (.str (.ofString "_wall") 193), (.ref 21)⟩, ⟨PyData.keyHash P (.ofString "EVERY"), (.str (.ofString "EVERY") 197), (.int (2) 196)⟩, ⟨PyData.keyHash P (.ofString "AckPolicy"), (.str (.ofString "AckPolicy") 269), (.ref 74)⟩] 12), #[]⟩
noncomputable def v12x0 (P : Params) : Obj := ⟨.none, none, (.fields #[(.int (1) 0), (.int (0) 0), (.ref 20), (.int (6) 0), (.int (0) 0), (.ref 27)]), #[]⟩
noncomputable def q0 : List Stmt := [stAt pwB 0, stAt pwB 1, stAt pwB 2, stAt pwB 3, stAt pwB 4]
noncomputable def run0 (w : World) (os : OsState) : Option (Flow × SharedT × Code × Pos) := Fast.tw10110043849684766642 Fast.tw14364793385576792824 p0 w 11 (some (.ref 6)) 1 443 (sT0 w os) (piecesOf q0 env0 cE ⟨0, 0, 0, 0⟩ [topFrame pos0])
noncomputable def tr1 (w : World) (os : OsState) : BT := sets (grow (tr0 w os) (ob (run0 w os)) 15 64) [(3, v3x0 w.params), (12, v12x0 w.params), (34, o34 w.params), (35, o35 w.params), (36, o36 w.params), (42, o42 w.params), (43, o43 w.params), (49, o49 w.params), (50, o50 w.params), (56, o56 w.params), (57, o57 w.params), (63, o63 w.params), (64, o64 w.params), (73, o73 w.params), (74, o74 w.params)]
noncomputable def sT1 (w : World) (os : OsState) : SharedT := ⟨tr1 w os, 79, {}, #[], {}, 272, os⟩
theorem pc0 (w : World) (os : OsState) : run0 w os = some (.next, sT1 w os, cE, ⟨39, 0, 39, 8⟩) := by
  kernel_rfl
noncomputable def v3x1 (P : Params) : Obj := ⟨(.type "dict"), none, (.dict #[⟨PyData.keyHash P (.ofString "__name__"), (.str (.ofString "__name__") 165), (.str (.ofString "thinstack.retransmit") 429)⟩, ⟨PyData.keyHash P (.ofString "__doc__"), (.str (.ofString "__doc__") 166), .none⟩, ⟨PyData.keyHash P (.ofString "__package__"), (.str (.ofString "__package__") 167), .none⟩, ⟨PyData.keyHash P (.ofString "__loader__"), (.str (.ofString "__loader__") 168), (.builtin "__main__.__loader__#opaque")⟩, ⟨PyData.keyHash P (.ofString "__spec__"), (.str (.ofString "__spec__") 169), .none⟩, ⟨PyData.keyHash P (.ofString "__annotations__"), (.str (.ofString "__annotations__") 170), (.ref 6)⟩, ⟨PyData.keyHash P (.ofString "__builtins__"), (.str (.ofString "__builtins__") 171), (.ref 4)⟩, ⟨PyData.keyHash P (.ofString "__file__"), (.str (.ofString "__file__") 173), (.str (.ofString "/claim/cut.py") 172)⟩, ⟨PyData.keyHash P (.ofString "__cached__"), (.str (.ofString "__cached__") 174), .none⟩, ⟨PyData.keyHash P (.ofString "_wall"), (.str (.ofString "_wall") 193), (.ref 21)⟩, ⟨PyData.keyHash P (.ofString "EVERY"), (.str (.ofString "EVERY") 197), (.int (2) 196)⟩, ⟨PyData.keyHash P (.ofString "AckPolicy"), (.str (.ofString "AckPolicy") 269), (.ref 74)⟩, ⟨PyData.keyHash P (.ofString "Congestion"), (.str (.ofString "Congestion") 380), (.ref 158)⟩, ⟨PyData.keyHash P (.ofString "plus"), (.str (.ofString "plus") 391), (.ref 169)⟩, ⟨PyData.keyHash P (.ofString "distance"), (.str (.ofString "distance") 400), (.ref 176)⟩, ⟨PyData.keyHash P (.ofString "is_before"), (.str (.ofString "is_before") 410), (.ref 183)⟩, ⟨PyData.keyHash P (.ofString "is_at_most"), (.str (.ofString "is_at_most") 419), (.ref 190)⟩, ⟨PyData.keyHash P (.ofString "latest"), (.str (.ofString "latest") 428), (.ref 197)⟩, ⟨PyData.keyHash P (.ofString "MOST_SHIFT"), (.str (.ofString "MOST_SHIFT") 432), (.int (7) 431)⟩] 19), #[]⟩
noncomputable def v12x1 (P : Params) : Obj := ⟨.none, none, (.fields #[(.int (1) 0), (.int (0) 0), (.ref 20), (.int (6) 0), (.int (0) 0), (.ref 27), (.int (40) 0), (.int (0) 0), (.ref 84), (.int (98) 0), (.int (0) 0), (.ref 168), (.int (100) 0), (.int (0) 0), (.ref 175), (.int (102) 0), (.int (0) 0), (.ref 182), (.int (105) 0), (.int (0) 0), (.ref 189), (.int (107) 0), (.int (0) 0), (.ref 196)]), #[]⟩
noncomputable def q1 : List Stmt := [stAt pwB 5, stAt pwB 6, stAt pwB 7, stAt pwB 8, stAt pwB 9, stAt pwB 10, stAt pwB 11, stAt pwB 12, stAt pwB 13]
noncomputable def run1 (w : World) (os : OsState) : Option (Flow × SharedT × Code × Pos) := Fast.tw10110043849684766642 Fast.tw14364793385576792824 p0 w 11 (some (.ref 6)) 1 702 (sT1 w os) (piecesOf q1 env0 cE ⟨39, 0, 39, 8⟩ [topFrame pos0])
noncomputable def tr2 (w : World) (os : OsState) : BT := sets (grow (tr1 w os) (ob (run1 w os)) 79 119) [(3, v3x1 w.params), (12, v12x1 w.params), (91, o91 w.params), (92, o92 w.params), (157, o157 w.params), (158, o158 w.params), (168, o168 w.params), (169, o169 w.params), (175, o175 w.params), (176, o176 w.params), (182, o182 w.params), (183, o183 w.params), (189, o189 w.params), (190, o190 w.params)]
noncomputable def sT2 (w : World) (os : OsState) : SharedT := ⟨tr2 w os, 198, {}, #[], {}, 433, os⟩
theorem pc1 (w : World) (os : OsState) : run1 w os = some (.next, sT2 w os, cE, ⟨110, 0, 110, 10⟩) := by
  kernel_rfl
noncomputable def v3x2 (P : Params) : Obj := ⟨(.type "dict"), none, (.dict #[⟨PyData.keyHash P (.ofString "__name__"), (.str (.ofString "__name__") 165), (.str (.ofString "thinstack.errors") 608)⟩, ⟨PyData.keyHash P (.ofString "__doc__"), (.str (.ofString "__doc__") 166), .none⟩, ⟨PyData.keyHash P (.ofString "__package__"), (.str (.ofString "__package__") 167), .none⟩, ⟨PyData.keyHash P (.ofString "__loader__"), (.str (.ofString "__loader__") 168), (.builtin "__main__.__loader__#opaque")⟩, ⟨PyData.keyHash P (.ofString "__spec__"), (.str (.ofString "__spec__") 169), .none⟩, ⟨PyData.keyHash P (.ofString "__annotations__"), (.str (.ofString "__annotations__") 170), (.ref 6)⟩, ⟨PyData.keyHash P (.ofString "__builtins__"), (.str (.ofString "__builtins__") 171), (.ref 4)⟩, ⟨PyData.keyHash P (.ofString "__file__"), (.str (.ofString "__file__") 173), (.str (.ofString "/claim/cut.py") 172)⟩, ⟨PyData.keyHash P (.ofString "__cached__"), (.str (.ofString "__cached__") 174), .none⟩, ⟨PyData.keyHash P (.ofString "_wall"), (.str (.ofString "_wall") 193), (.ref 21)⟩, ⟨PyData.keyHash P (.ofString "EVERY"), (.str (.ofString "EVERY") 197), (.int (2) 196)⟩, ⟨PyData.keyHash P (.ofString "AckPolicy"), (.str (.ofString "AckPolicy") 269), (.ref 74)⟩, ⟨PyData.keyHash P (.ofString "Congestion"), (.str (.ofString "Congestion") 380), (.ref 158)⟩, ⟨PyData.keyHash P (.ofString "plus"), (.str (.ofString "plus") 391), (.ref 169)⟩, ⟨PyData.keyHash P (.ofString "distance"), (.str (.ofString "distance") 400), (.ref 176)⟩, ⟨PyData.keyHash P (.ofString "is_before"), (.str (.ofString "is_before") 410), (.ref 183)⟩, ⟨PyData.keyHash P (.ofString "is_at_most"), (.str (.ofString "is_at_most") 419), (.ref 190)⟩, ⟨PyData.keyHash P (.ofString "latest"), (.str (.ofString "latest") 428), (.ref 197)⟩, ⟨PyData.keyHash P (.ofString "MOST_SHIFT"), (.str (.ofString "MOST_SHIFT") 432), (.int (7) 431)⟩, ⟨PyData.keyHash P (.ofString "RetransmitClock"), (.str (.ofString "RetransmitClock") 531), (.ref 270)⟩, ⟨PyData.keyHash P (.ofString "RttEstimate"), (.str (.ofString "RttEstimate") 607), (.ref 326)⟩] 21), #[]⟩
noncomputable def v12x2 (P : Params) : Obj := ⟨.none, none, (.fields #[(.int (1) 0), (.int (0) 0), (.ref 20), (.int (6) 0), (.int (0) 0), (.ref 27), (.int (40) 0), (.int (0) 0), (.ref 84), (.int (98) 0), (.int (0) 0), (.ref 168), (.int (100) 0), (.int (0) 0), (.ref 175), (.int (102) 0), (.int (0) 0), (.ref 182), (.int (105) 0), (.int (0) 0), (.ref 189), (.int (107) 0), (.int (0) 0), (.ref 196), (.int (111) 0), (.int (0) 0), (.ref 203), (.int (157) 0), (.int (0) 0), (.ref 280)]), #[]⟩
noncomputable def q2 : List Stmt := [stAt pwB 14, stAt pwB 15, stAt pwB 16, stAt pwB 17]
noncomputable def run2 (w : World) (os : OsState) : Option (Flow × SharedT × Code × Pos) := Fast.tw10110043849684766642 Fast.tw14364793385576792824 p0 w 11 (some (.ref 6)) 1 890 (sT2 w os) (piecesOf q2 env0 cE ⟨110, 0, 110, 10⟩ [topFrame pos0])
noncomputable def tr3 (w : World) (os : OsState) : BT := sets (grow (tr2 w os) (ob (run2 w os)) 198 133) [(3, v3x2 w.params), (12, v12x2 w.params), (210, o210 w.params), (211, o211 w.params), (245, o245 w.params), (246, o246 w.params), (259, o259 w.params), (260, o260 w.params), (269, o269 w.params), (270, o270 w.params), (287, o287 w.params), (288, o288 w.params), (308, o308 w.params), (309, o309 w.params), (315, o315 w.params), (316, o316 w.params), (322, o322 w.params), (323, o323 w.params), (325, o325 w.params), (326, o326 w.params)]
noncomputable def sT3 (w : World) (os : OsState) : SharedT := ⟨tr3 w os, 331, {}, #[], {}, 610, os⟩
theorem pc2 (w : World) (os : OsState) : run2 w os = some (.next, sT3 w os, cE, ⟨194, 0, 194, 8⟩) := by
  kernel_rfl
noncomputable def v2x3 (P : Params) : Obj := ⟨.none, none, (.dict #[⟨PyData.keyHash P (.ofString "type.__subclasses__.Exception.0"), (.str (.ofString "type.__subclasses__.Exception.0") 635), (.int (347) 0)⟩, ⟨PyData.keyHash P (.ofString "type.__subclasses__.Exception.n"), (.str (.ofString "type.__subclasses__.Exception.n") 636), (.int (1) 0)⟩] 2), #[]⟩
noncomputable def v3x3 (P : Params) : Obj := ⟨(.type "dict"), none, (.dict #[⟨PyData.keyHash P (.ofString "__name__"), (.str (.ofString "__name__") 165), (.str (.ofString "thinstack.send_queue") 671)⟩, ⟨PyData.keyHash P (.ofString "__doc__"), (.str (.ofString "__doc__") 166), .none⟩, ⟨PyData.keyHash P (.ofString "__package__"), (.str (.ofString "__package__") 167), .none⟩, ⟨PyData.keyHash P (.ofString "__loader__"), (.str (.ofString "__loader__") 168), (.builtin "__main__.__loader__#opaque")⟩, ⟨PyData.keyHash P (.ofString "__spec__"), (.str (.ofString "__spec__") 169), .none⟩, ⟨PyData.keyHash P (.ofString "__annotations__"), (.str (.ofString "__annotations__") 170), (.ref 6)⟩, ⟨PyData.keyHash P (.ofString "__builtins__"), (.str (.ofString "__builtins__") 171), (.ref 4)⟩, ⟨PyData.keyHash P (.ofString "__file__"), (.str (.ofString "__file__") 173), (.str (.ofString "/claim/cut.py") 172)⟩, ⟨PyData.keyHash P (.ofString "__cached__"), (.str (.ofString "__cached__") 174), .none⟩, ⟨PyData.keyHash P (.ofString "_wall"), (.str (.ofString "_wall") 193), (.ref 21)⟩, ⟨PyData.keyHash P (.ofString "EVERY"), (.str (.ofString "EVERY") 197), (.int (2) 196)⟩, ⟨PyData.keyHash P (.ofString "AckPolicy"), (.str (.ofString "AckPolicy") 269), (.ref 74)⟩, ⟨PyData.keyHash P (.ofString "Congestion"), (.str (.ofString "Congestion") 380), (.ref 158)⟩, ⟨PyData.keyHash P (.ofString "plus"), (.str (.ofString "plus") 391), (.ref 169)⟩, ⟨PyData.keyHash P (.ofString "distance"), (.str (.ofString "distance") 400), (.ref 176)⟩, ⟨PyData.keyHash P (.ofString "is_before"), (.str (.ofString "is_before") 410), (.ref 183)⟩, ⟨PyData.keyHash P (.ofString "is_at_most"), (.str (.ofString "is_at_most") 419), (.ref 190)⟩, ⟨PyData.keyHash P (.ofString "latest"), (.str (.ofString "latest") 428), (.ref 197)⟩, ⟨PyData.keyHash P (.ofString "MOST_SHIFT"), (.str (.ofString "MOST_SHIFT") 432), (.int (7) 431)⟩, ⟨PyData.keyHash P (.ofString "RetransmitClock"), (.str (.ofString "RetransmitClock") 531), (.ref 270)⟩, ⟨PyData.keyHash P (.ofString "RttEstimate"), (.str (.ofString "RttEstimate") 607), (.ref 326)⟩, ⟨PyData.keyHash P (.ofString "StackError"), (.str (.ofString "StackError") 638), (.ref 347)⟩, ⟨PyData.keyHash P (.ofString "SizeError"), (.str (.ofString "SizeError") 654), (.ref 360)⟩, ⟨PyData.keyHash P (.ofString "StateError"), (.str (.ofString "StateError") 670), (.ref 372)⟩] 24), #[]⟩
noncomputable def v12x3 (P : Params) : Obj := ⟨.none, none, (.fields #[(.int (1) 0), (.int (0) 0), (.ref 20), (.int (6) 0), (.int (0) 0), (.ref 27), (.int (40) 0), (.int (0) 0), (.ref 84), (.int (98) 0), (.int (0) 0), (.ref 168), (.int (100) 0), (.int (0) 0), (.ref 175), (.int (102) 0), (.int (0) 0), (.ref 182), (.int (105) 0), (.int (0) 0), (.ref 189), (.int (107) 0), (.int (0) 0), (.ref 196), (.int (111) 0), (.int (0) 0), (.ref 203), (.int (157) 0), (.int (0) 0), (.ref 280), (.int (195) 0), (.int (0) 0), (.ref 336), (.int (199) 0), (.int (0) 0), (.ref 356), (.int (201) 0), (.int (0) 0), (.ref 368)]), #[]⟩
noncomputable def q3 : List Stmt := [stAt pwB 18, stAt pwB 19, stAt pwB 20, stAt pwB 21]
noncomputable def run3 (w : World) (os : OsState) : Option (Flow × SharedT × Code × Pos) := Fast.tw10110043849684766642 Fast.tw14364793385576792824 p0 w 11 (some (.ref 6)) 1 664 (sT3 w os) (piecesOf q3 env0 cE ⟨194, 0, 194, 8⟩ [topFrame pos0])
noncomputable def tr4 (w : World) (os : OsState) : BT := sets (grow (tr3 w os) (ob (run3 w os)) 331 44) [(2, v2x3 w.params), (3, v3x3 w.params), (12, v12x3 w.params)]
noncomputable def sT4 (w : World) (os : OsState) : SharedT := ⟨tr4 w os, 375, {}, #[], {}, 673, os⟩
theorem pc3 (w : World) (os : OsState) : run3 w os = some (.next, sT4 w os, cE, ⟨203, 0, 203, 8⟩) := by
  kernel_rfl
noncomputable def v3x4 (P : Params) : Obj := ⟨(.type "dict"), none, (.dict #[⟨PyData.keyHash P (.ofString "__name__"), (.str (.ofString "__name__") 165), (.str (.ofString "thinstack.sender") 743)⟩, ⟨PyData.keyHash P (.ofString "__doc__"), (.str (.ofString "__doc__") 166), .none⟩, ⟨PyData.keyHash P (.ofString "__package__"), (.str (.ofString "__package__") 167), .none⟩, ⟨PyData.keyHash P (.ofString "__loader__"), (.str (.ofString "__loader__") 168), (.builtin "__main__.__loader__#opaque")⟩, ⟨PyData.keyHash P (.ofString "__spec__"), (.str (.ofString "__spec__") 169), .none⟩, ⟨PyData.keyHash P (.ofString "__annotations__"), (.str (.ofString "__annotations__") 170), (.ref 6)⟩, ⟨PyData.keyHash P (.ofString "__builtins__"), (.str (.ofString "__builtins__") 171), (.ref 4)⟩, ⟨PyData.keyHash P (.ofString "__file__"), (.str (.ofString "__file__") 173), (.str (.ofString "/claim/cut.py") 172)⟩, ⟨PyData.keyHash P (.ofString "__cached__"), (.str (.ofString "__cached__") 174), .none⟩, ⟨PyData.keyHash P (.ofString "_wall"), (.str (.ofString "_wall") 193), (.ref 21)⟩, ⟨PyData.keyHash P (.ofString "EVERY"), (.str (.ofString "EVERY") 197), (.int (2) 196)⟩, ⟨PyData.keyHash P (.ofString "AckPolicy"), (.str (.ofString "AckPolicy") 269), (.ref 74)⟩, ⟨PyData.keyHash P (.ofString "Congestion"), (.str (.ofString "Congestion") 380), (.ref 158)⟩, ⟨PyData.keyHash P (.ofString "plus"), (.str (.ofString "plus") 391), (.ref 169)⟩, ⟨PyData.keyHash P (.ofString "distance"), (.str (.ofString "distance") 400), (.ref 176)⟩, ⟨PyData.keyHash P (.ofString "is_before"), (.str (.ofString "is_before") 410), (.ref 183)⟩, ⟨PyData.keyHash P (.ofString "is_at_most"), (.str (.ofString "is_at_most") 419), (.ref 190)⟩, ⟨PyData.keyHash P (.ofString "latest"), (.str (.ofString "latest") 428), (.ref 197)⟩, ⟨PyData.keyHash P (.ofString "MOST_SHIFT"), (.str (.ofString "MOST_SHIFT") 432), (.int (7) 431)⟩, ⟨PyData.keyHash P (.ofString "RetransmitClock"), (.str (.ofString "RetransmitClock") 531), (.ref 270)⟩, ⟨PyData.keyHash P (.ofString "RttEstimate"), (.str (.ofString "RttEstimate") 607), (.ref 326)⟩, ⟨PyData.keyHash P (.ofString "StackError"), (.str (.ofString "StackError") 638), (.ref 347)⟩, ⟨PyData.keyHash P (.ofString "SizeError"), (.str (.ofString "SizeError") 654), (.ref 360)⟩, ⟨PyData.keyHash P (.ofString "StateError"), (.str (.ofString "StateError") 670), (.ref 372)⟩, ⟨PyData.keyHash P (.ofString "SendQueue"), (.str (.ofString "SendQueue") 742), (.ref 426)⟩, ⟨PyData.keyHash P (.ofString "PeerWindow"), (.str (.ofString "PeerWindow") 797), (.ref 461)⟩] 26), #[]⟩
noncomputable def v12x4 (P : Params) : Obj := ⟨.none, none, (.fields #[(.int (1) 0), (.int (0) 0), (.ref 20), (.int (6) 0), (.int (0) 0), (.ref 27), (.int (40) 0), (.int (0) 0), (.ref 84), (.int (98) 0), (.int (0) 0), (.ref 168), (.int (100) 0), (.int (0) 0), (.ref 175), (.int (102) 0), (.int (0) 0), (.ref 182), (.int (105) 0), (.int (0) 0), (.ref 189), (.int (107) 0), (.int (0) 0), (.ref 196), (.int (111) 0), (.int (0) 0), (.ref 203), (.int (157) 0), (.int (0) 0), (.ref 280), (.int (195) 0), (.int (0) 0), (.ref 336), (.int (199) 0), (.int (0) 0), (.ref 356), (.int (201) 0), (.int (0) 0), (.ref 368), (.int (204) 0), (.int (0) 0), (.ref 380), (.int (233) 0), (.int (0) 0), (.ref 436)]), #[]⟩
noncomputable def q4 : List Stmt := [stAt pwB 22, stAt pwB 23, stAt pwB 24]
noncomputable def run4 (w : World) (os : OsState) : Option (Flow × SharedT × Code × Pos) := Fast.tw10110043849684766642 Fast.tw14364793385576792824 p0 w 11 (some (.ref 6)) 1 687 (sT4 w os) (piecesOf q4 env0 cE ⟨203, 0, 203, 8⟩ [topFrame pos0])
noncomputable def tr5 (w : World) (os : OsState) : BT := sets (grow (tr4 w os) (ob (run4 w os)) 375 91) [(3, v3x4 w.params), (12, v12x4 w.params), (387, o387 w.params), (388, o388 w.params), (425, o425 w.params), (426, o426 w.params), (443, o443 w.params), (444, o444 w.params), (460, o460 w.params), (461, o461 w.params)]
noncomputable def sT5 (w : World) (os : OsState) : SharedT := ⟨tr5 w os, 466, {}, #[], {}, 798, os⟩
theorem pc4 (w : World) (os : OsState) : run4 w os = some (.next, sT5 w os, cE, ⟨233, 0, 257, 19⟩) := by
  kernel_rfl
noncomputable def v3x5 (P : Params) : Obj := ⟨(.type "dict"), none, (.dict #[⟨PyData.keyHash P (.ofString "__name__"), (.str (.ofString "__name__") 165), (.str (.ofString "thinstack.sender") 743)⟩, ⟨PyData.keyHash P (.ofString "__doc__"), (.str (.ofString "__doc__") 166), .none⟩, ⟨PyData.keyHash P (.ofString "__package__"), (.str (.ofString "__package__") 167), .none⟩, ⟨PyData.keyHash P (.ofString "__loader__"), (.str (.ofString "__loader__") 168), (.builtin "__main__.__loader__#opaque")⟩, ⟨PyData.keyHash P (.ofString "__spec__"), (.str (.ofString "__spec__") 169), .none⟩, ⟨PyData.keyHash P (.ofString "__annotations__"), (.str (.ofString "__annotations__") 170), (.ref 6)⟩, ⟨PyData.keyHash P (.ofString "__builtins__"), (.str (.ofString "__builtins__") 171), (.ref 4)⟩, ⟨PyData.keyHash P (.ofString "__file__"), (.str (.ofString "__file__") 173), (.str (.ofString "/claim/cut.py") 172)⟩, ⟨PyData.keyHash P (.ofString "__cached__"), (.str (.ofString "__cached__") 174), .none⟩, ⟨PyData.keyHash P (.ofString "_wall"), (.str (.ofString "_wall") 193), (.ref 21)⟩, ⟨PyData.keyHash P (.ofString "EVERY"), (.str (.ofString "EVERY") 197), (.int (2) 196)⟩, ⟨PyData.keyHash P (.ofString "AckPolicy"), (.str (.ofString "AckPolicy") 269), (.ref 74)⟩, ⟨PyData.keyHash P (.ofString "Congestion"), (.str (.ofString "Congestion") 380), (.ref 158)⟩, ⟨PyData.keyHash P (.ofString "plus"), (.str (.ofString "plus") 391), (.ref 169)⟩, ⟨PyData.keyHash P (.ofString "distance"), (.str (.ofString "distance") 400), (.ref 176)⟩, ⟨PyData.keyHash P (.ofString "is_before"), (.str (.ofString "is_before") 410), (.ref 183)⟩, ⟨PyData.keyHash P (.ofString "is_at_most"), (.str (.ofString "is_at_most") 419), (.ref 190)⟩, ⟨PyData.keyHash P (.ofString "latest"), (.str (.ofString "latest") 428), (.ref 197)⟩, ⟨PyData.keyHash P (.ofString "MOST_SHIFT"), (.str (.ofString "MOST_SHIFT") 432), (.int (7) 431)⟩, ⟨PyData.keyHash P (.ofString "RetransmitClock"), (.str (.ofString "RetransmitClock") 531), (.ref 270)⟩, ⟨PyData.keyHash P (.ofString "RttEstimate"), (.str (.ofString "RttEstimate") 607), (.ref 326)⟩, ⟨PyData.keyHash P (.ofString "StackError"), (.str (.ofString "StackError") 638), (.ref 347)⟩, ⟨PyData.keyHash P (.ofString "SizeError"), (.str (.ofString "SizeError") 654), (.ref 360)⟩, ⟨PyData.keyHash P (.ofString "StateError"), (.str (.ofString "StateError") 670), (.ref 372)⟩, ⟨PyData.keyHash P (.ofString "SendQueue"), (.str (.ofString "SendQueue") 742), (.ref 426)⟩, ⟨PyData.keyHash P (.ofString "PeerWindow"), (.str (.ofString "PeerWindow") 797), (.ref 461)⟩, ⟨PyData.keyHash P (.ofString "Sender"), (.str (.ofString "Sender") 1034), (.ref 652)⟩] 27), #[]⟩
noncomputable def v12x5 (P : Params) : Obj := ⟨.none, none, (.fields #[(.int (1) 0), (.int (0) 0), (.ref 20), (.int (6) 0), (.int (0) 0), (.ref 27), (.int (40) 0), (.int (0) 0), (.ref 84), (.int (98) 0), (.int (0) 0), (.ref 168), (.int (100) 0), (.int (0) 0), (.ref 175), (.int (102) 0), (.int (0) 0), (.ref 182), (.int (105) 0), (.int (0) 0), (.ref 189), (.int (107) 0), (.int (0) 0), (.ref 196), (.int (111) 0), (.int (0) 0), (.ref 203), (.int (157) 0), (.int (0) 0), (.ref 280), (.int (195) 0), (.int (0) 0), (.ref 336), (.int (199) 0), (.int (0) 0), (.ref 356), (.int (201) 0), (.int (0) 0), (.ref 368), (.int (204) 0), (.int (0) 0), (.ref 380), (.int (233) 0), (.int (0) 0), (.ref 436), (.int (258) 0), (.int (0) 0), (.ref 471)]), #[]⟩
noncomputable def q5 : List Stmt := [stAt pwB 25]
noncomputable def run5 (w : World) (os : OsState) : Option (Flow × SharedT × Code × Pos) := Fast.tw10110043849684766642 Fast.tw14364793385576792824 p0 w 11 (some (.ref 6)) 1 1065 (sT5 w os) (piecesOf q5 env0 cE ⟨233, 0, 257, 19⟩ [topFrame pos0])
noncomputable def tr6 (w : World) (os : OsState) : BT := sets (grow (tr5 w os) (ob (run5 w os)) 466 191) [(3, v3x5 w.params), (12, v12x5 w.params), (478, o478 w.params), (479, o479 w.params), (651, o651 w.params), (652, o652 w.params)]
noncomputable def sT6 (w : World) (os : OsState) : SharedT := ⟨tr6 w os, 657, {}, #[], {}, 1035, os⟩
theorem pc5 (w : World) (os : OsState) : run5 w os = some (.next, sT6 w os, cE, ⟨258, 0, 385, 60⟩) := by
  kernel_rfl
noncomputable def v3x6 (P : Params) : Obj := ⟨(.type "dict"), none, (.dict #[⟨PyData.keyHash P (.ofString "__name__"), (.str (.ofString "__name__") 165), (.str (.ofString "thinstack.wheel") 1141)⟩, ⟨PyData.keyHash P (.ofString "__doc__"), (.str (.ofString "__doc__") 166), .none⟩, ⟨PyData.keyHash P (.ofString "__package__"), (.str (.ofString "__package__") 167), .none⟩, ⟨PyData.keyHash P (.ofString "__loader__"), (.str (.ofString "__loader__") 168), (.builtin "__main__.__loader__#opaque")⟩, ⟨PyData.keyHash P (.ofString "__spec__"), (.str (.ofString "__spec__") 169), .none⟩, ⟨PyData.keyHash P (.ofString "__annotations__"), (.str (.ofString "__annotations__") 170), (.ref 6)⟩, ⟨PyData.keyHash P (.ofString "__builtins__"), (.str (.ofString "__builtins__") 171), (.ref 4)⟩, ⟨PyData.keyHash P (.ofString "__file__"), (.str (.ofString "__file__") 173), (.str (.ofString "/claim/cut.py") 172)⟩, ⟨PyData.keyHash P (.ofString "__cached__"), (.str (.ofString "__cached__") 174), .none⟩, ⟨PyData.keyHash P (.ofString "_wall"), (.str (.ofString "_wall") 193), (.ref 21)⟩, ⟨PyData.keyHash P (.ofString "EVERY"), (.str (.ofString "EVERY") 197), (.int (2) 196)⟩, ⟨PyData.keyHash P (.ofString "AckPolicy"), (.str (.ofString "AckPolicy") 269), (.ref 74)⟩, ⟨PyData.keyHash P (.ofString "Congestion"), (.str (.ofString "Congestion") 380), (.ref 158)⟩, ⟨PyData.keyHash P (.ofString "plus"), (.str (.ofString "plus") 391), (.ref 169)⟩, ⟨PyData.keyHash P (.ofString "distance"), (.str (.ofString "distance") 400), (.ref 176)⟩, ⟨PyData.keyHash P (.ofString "is_before"), (.str (.ofString "is_before") 410), (.ref 183)⟩, ⟨PyData.keyHash P (.ofString "is_at_most"), (.str (.ofString "is_at_most") 419), (.ref 190)⟩, ⟨PyData.keyHash P (.ofString "latest"), (.str (.ofString "latest") 428), (.ref 197)⟩, ⟨PyData.keyHash P (.ofString "MOST_SHIFT"), (.str (.ofString "MOST_SHIFT") 432), (.int (7) 431)⟩, ⟨PyData.keyHash P (.ofString "RetransmitClock"), (.str (.ofString "RetransmitClock") 531), (.ref 270)⟩, ⟨PyData.keyHash P (.ofString "RttEstimate"), (.str (.ofString "RttEstimate") 607), (.ref 326)⟩, ⟨PyData.keyHash P (.ofString "StackError"), (.str (.ofString "StackError") 638), (.ref 347)⟩, ⟨PyData.keyHash P (.ofString "SizeError"), (.str (.ofString "SizeError") 654), (.ref 360)⟩, ⟨PyData.keyHash P (.ofString "StateError"), (.str (.ofString "StateError") 670), (.ref 372)⟩, ⟨PyData.keyHash P (.ofString "SendQueue"), (.str (.ofString "SendQueue") 742), (.ref 426)⟩, ⟨PyData.keyHash P (.ofString "PeerWindow"), (.str (.ofString "PeerWindow") 797), (.ref 461)⟩, ⟨PyData.keyHash P (.ofString "Sender"), (.str (.ofString "Sender") 1034), (.ref 652)⟩, ⟨PyData.keyHash P (.ofString "put16"), (.str (.ofString "put16") 1043), (.ref 663)⟩, ⟨PyData.keyHash P (.ofString "SYN"), (.str (.ofString "SYN") 1047), (.int (2) 1046)⟩, ⟨PyData.keyHash P (.ofString "ACK"), (.str (.ofString "ACK") 1049), (.int (16) 1048)⟩, ⟨PyData.keyHash P (.ofString "OPTION_MSS"), (.str (.ofString "OPTION_MSS") 1051), (.int (2) 1050)⟩, ⟨PyData.keyHash P (.ofString "MSS_SIZE"), (.str (.ofString "MSS_SIZE") 1053), (.int (4) 1052)⟩, ⟨PyData.keyHash P (.ofString "Segment"), (.str (.ofString "Segment") 1123), (.ref 702)⟩, ⟨PyData.keyHash P (.ofString "check_number"), (.str (.ofString "check_number") 1131), (.ref 713)⟩, ⟨PyData.keyHash P (.ofString "mss_option"), (.str (.ofString "mss_option") 1138), (.ref 720)⟩, ⟨PyData.keyHash P (.ofString "CLOSED"), (.str (.ofString "CLOSED") 1140), (.str (.ofString "closed") 1139)⟩] 36), #[]⟩
noncomputable def v12x6 (P : Params) : Obj := ⟨.none, none, (.fields #[(.int (1) 0), (.int (0) 0), (.ref 20), (.int (6) 0), (.int (0) 0), (.ref 27), (.int (40) 0), (.int (0) 0), (.ref 84), (.int (98) 0), (.int (0) 0), (.ref 168), (.int (100) 0), (.int (0) 0), (.ref 175), (.int (102) 0), (.int (0) 0), (.ref 182), (.int (105) 0), (.int (0) 0), (.ref 189), (.int (107) 0), (.int (0) 0), (.ref 196), (.int (111) 0), (.int (0) 0), (.ref 203), (.int (157) 0), (.int (0) 0), (.ref 280), (.int (195) 0), (.int (0) 0), (.ref 336), (.int (199) 0), (.int (0) 0), (.ref 356), (.int (201) 0), (.int (0) 0), (.ref 368), (.int (204) 0), (.int (0) 0), (.ref 380), (.int (233) 0), (.int (0) 0), (.ref 436), (.int (258) 0), (.int (0) 0), (.ref 471), (.int (387) 0), (.int (0) 0), (.ref 662), (.int (394) 0), (.int (0) 0), (.ref 669), (.int (415) 0), (.int (0) 0), (.ref 712), (.int (418) 0), (.int (0) 0), (.ref 719)]), #[]⟩
noncomputable def q6 : List Stmt := [stAt pwB 26, stAt pwB 27, stAt pwB 28, stAt pwB 29, stAt pwB 30, stAt pwB 31, stAt pwB 32, stAt pwB 33, stAt pwB 34, stAt pwB 35, stAt pwB 36, stAt pwB 37]
noncomputable def run6 (w : World) (os : OsState) : Option (Flow × SharedT × Code × Pos) := Fast.tw10110043849684766642 Fast.tw14364793385576792824 p0 w 11 (some (.ref 6)) 1 497 (sT6 w os) (piecesOf q6 env0 cE ⟨258, 0, 385, 60⟩ [topFrame pos0])
noncomputable def tr7 (w : World) (os : OsState) : BT := sets (grow (tr6 w os) (ob (run6 w os)) 657 64) [(3, v3x6 w.params), (12, v12x6 w.params), (662, o662 w.params), (663, o663 w.params), (671, o671 w.params), (677, o677 w.params), (678, o678 w.params), (701, o701 w.params), (702, o702 w.params), (712, o712 w.params), (713, o713 w.params), (719, o719 w.params), (720, o720 w.params)]
noncomputable def sT7 (w : World) (os : OsState) : SharedT := ⟨tr7 w os, 721, {}, #[], {}, 1143, os⟩
theorem pc6 (w : World) (os : OsState) : run6 w os = some (.next, sT7 w os, cE, ⟨422, 0, 422, 8⟩) := by
  kernel_rfl
noncomputable def v3x7 (P : Params) : Obj := ⟨(.type "dict"), none, (.dict #[⟨PyData.keyHash P (.ofString "__name__"), (.str (.ofString "__name__") 165), (.str (.ofString "thinstack.tcb") 1235)⟩, ⟨PyData.keyHash P (.ofString "__doc__"), (.str (.ofString "__doc__") 166), .none⟩, ⟨PyData.keyHash P (.ofString "__package__"), (.str (.ofString "__package__") 167), .none⟩, ⟨PyData.keyHash P (.ofString "__loader__"), (.str (.ofString "__loader__") 168), (.builtin "__main__.__loader__#opaque")⟩, ⟨PyData.keyHash P (.ofString "__spec__"), (.str (.ofString "__spec__") 169), .none⟩, ⟨PyData.keyHash P (.ofString "__annotations__"), (.str (.ofString "__annotations__") 170), (.ref 6)⟩, ⟨PyData.keyHash P (.ofString "__builtins__"), (.str (.ofString "__builtins__") 171), (.ref 4)⟩, ⟨PyData.keyHash P (.ofString "__file__"), (.str (.ofString "__file__") 173), (.str (.ofString "/claim/cut.py") 172)⟩, ⟨PyData.keyHash P (.ofString "__cached__"), (.str (.ofString "__cached__") 174), .none⟩, ⟨PyData.keyHash P (.ofString "_wall"), (.str (.ofString "_wall") 193), (.ref 21)⟩, ⟨PyData.keyHash P (.ofString "EVERY"), (.str (.ofString "EVERY") 197), (.int (2) 196)⟩, ⟨PyData.keyHash P (.ofString "AckPolicy"), (.str (.ofString "AckPolicy") 269), (.ref 74)⟩, ⟨PyData.keyHash P (.ofString "Congestion"), (.str (.ofString "Congestion") 380), (.ref 158)⟩, ⟨PyData.keyHash P (.ofString "plus"), (.str (.ofString "plus") 391), (.ref 169)⟩, ⟨PyData.keyHash P (.ofString "distance"), (.str (.ofString "distance") 400), (.ref 176)⟩, ⟨PyData.keyHash P (.ofString "is_before"), (.str (.ofString "is_before") 410), (.ref 183)⟩, ⟨PyData.keyHash P (.ofString "is_at_most"), (.str (.ofString "is_at_most") 419), (.ref 190)⟩, ⟨PyData.keyHash P (.ofString "latest"), (.str (.ofString "latest") 428), (.ref 197)⟩, ⟨PyData.keyHash P (.ofString "MOST_SHIFT"), (.str (.ofString "MOST_SHIFT") 432), (.int (7) 431)⟩, ⟨PyData.keyHash P (.ofString "RetransmitClock"), (.str (.ofString "RetransmitClock") 531), (.ref 270)⟩, ⟨PyData.keyHash P (.ofString "RttEstimate"), (.str (.ofString "RttEstimate") 607), (.ref 326)⟩, ⟨PyData.keyHash P (.ofString "StackError"), (.str (.ofString "StackError") 638), (.ref 347)⟩, ⟨PyData.keyHash P (.ofString "SizeError"), (.str (.ofString "SizeError") 654), (.ref 360)⟩, ⟨PyData.keyHash P (.ofString "StateError"), (.str (.ofString "StateError") 670), (.ref 372)⟩, ⟨PyData.keyHash P (.ofString "SendQueue"), (.str (.ofString "SendQueue") 742), (.ref 426)⟩, ⟨PyData.keyHash P (.ofString "PeerWindow"), (.str (.ofString "PeerWindow") 797), (.ref 461)⟩, ⟨PyData.keyHash P (.ofString "Sender"), (.str (.ofString "Sender") 1034), (.ref 652)⟩, ⟨PyData.keyHash P (.ofString "put16"), (.str (.ofString "put16") 1043), (.ref 663)⟩, ⟨PyData.keyHash P (.ofString "SYN"), (.str (.ofString "SYN") 1047), (.int (2) 1046)⟩, ⟨PyData.keyHash P (.ofString "ACK"), (.str (.ofString "ACK") 1049), (.int (16) 1048)⟩, ⟨PyData.keyHash P (.ofString "OPTION_MSS"), (.str (.ofString "OPTION_MSS") 1051), (.int (2) 1050)⟩, ⟨PyData.keyHash P (.ofString "MSS_SIZE"), (.str (.ofString "MSS_SIZE") 1053), (.int (4) 1052)⟩, ⟨PyData.keyHash P (.ofString "Segment"), (.str (.ofString "Segment") 1123), (.ref 702)⟩, ⟨PyData.keyHash P (.ofString "check_number"), (.str (.ofString "check_number") 1131), (.ref 713)⟩, ⟨PyData.keyHash P (.ofString "mss_option"), (.str (.ofString "mss_option") 1138), (.ref 720)⟩, ⟨PyData.keyHash P (.ofString "CLOSED"), (.str (.ofString "CLOSED") 1140), (.str (.ofString "closed") 1139)⟩, ⟨PyData.keyHash P (.ofString "Wheel"), (.str (.ofString "Wheel") 1234), (.ref 783)⟩, ⟨PyData.keyHash P (.ofString "DELAYED"), (.str (.ofString "DELAYED") 1238), (.int (3) 1237)⟩, ⟨PyData.keyHash P (.ofString "MOST_WINDOW"), (.str (.ofString "MOST_WINDOW") 1240), (.int (65535) 1239)⟩] 39), #[]⟩
noncomputable def v12x7 (P : Params) : Obj := ⟨.none, none, (.fields #[(.int (1) 0), (.int (0) 0), (.ref 20), (.int (6) 0), (.int (0) 0), (.ref 27), (.int (40) 0), (.int (0) 0), (.ref 84), (.int (98) 0), (.int (0) 0), (.ref 168), (.int (100) 0), (.int (0) 0), (.ref 175), (.int (102) 0), (.int (0) 0), (.ref 182), (.int (105) 0), (.int (0) 0), (.ref 189), (.int (107) 0), (.int (0) 0), (.ref 196), (.int (111) 0), (.int (0) 0), (.ref 203), (.int (157) 0), (.int (0) 0), (.ref 280), (.int (195) 0), (.int (0) 0), (.ref 336), (.int (199) 0), (.int (0) 0), (.ref 356), (.int (201) 0), (.int (0) 0), (.ref 368), (.int (204) 0), (.int (0) 0), (.ref 380), (.int (233) 0), (.int (0) 0), (.ref 436), (.int (258) 0), (.int (0) 0), (.ref 471), (.int (387) 0), (.int (0) 0), (.ref 662), (.int (394) 0), (.int (0) 0), (.ref 669), (.int (415) 0), (.int (0) 0), (.ref 712), (.int (418) 0), (.int (0) 0), (.ref 719), (.int (423) 0), (.int (0) 0), (.ref 726)]), #[]⟩
noncomputable def q7 : List Stmt := [stAt pwB 38, stAt pwB 39, stAt pwB 40, stAt pwB 41]
noncomputable def run7 (w : World) (os : OsState) : Option (Flow × SharedT × Code × Pos) := Fast.tw10110043849684766642 Fast.tw14364793385576792824 p0 w 11 (some (.ref 6)) 1 478 (sT7 w os) (piecesOf q7 env0 cE ⟨422, 0, 422, 8⟩ [topFrame pos0])
noncomputable def tr8 (w : World) (os : OsState) : BT := sets (grow (tr7 w os) (ob (run7 w os)) 721 67) [(3, v3x7 w.params), (12, v12x7 w.params), (728, o728 w.params), (732, o732 w.params), (733, o733 w.params), (739, o739 w.params), (740, o740 w.params), (746, o746 w.params), (747, o747 w.params), (753, o753 w.params), (754, o754 w.params), (760, o760 w.params), (761, o761 w.params), (782, o782 w.params), (783, o783 w.params)]
noncomputable def sT8 (w : World) (os : OsState) : SharedT := ⟨tr8 w os, 788, {}, #[], {}, 1241, os⟩
theorem pc7 (w : World) (os : OsState) : run7 w os = some (.next, sT8 w os, cE, ⟨478, 0, 478, 11⟩) := by
  kernel_rfl
noncomputable def v3x8 (P : Params) : Obj := ⟨(.type "dict"), none, (.dict #[⟨PyData.keyHash P (.ofString "__name__"), (.str (.ofString "__name__") 165), (.str (.ofString "thinstack.assembly") 1362)⟩, ⟨PyData.keyHash P (.ofString "__doc__"), (.str (.ofString "__doc__") 166), .none⟩, ⟨PyData.keyHash P (.ofString "__package__"), (.str (.ofString "__package__") 167), .none⟩, ⟨PyData.keyHash P (.ofString "__loader__"), (.str (.ofString "__loader__") 168), (.builtin "__main__.__loader__#opaque")⟩, ⟨PyData.keyHash P (.ofString "__spec__"), (.str (.ofString "__spec__") 169), .none⟩, ⟨PyData.keyHash P (.ofString "__annotations__"), (.str (.ofString "__annotations__") 170), (.ref 6)⟩, ⟨PyData.keyHash P (.ofString "__builtins__"), (.str (.ofString "__builtins__") 171), (.ref 4)⟩, ⟨PyData.keyHash P (.ofString "__file__"), (.str (.ofString "__file__") 173), (.str (.ofString "/claim/cut.py") 172)⟩, ⟨PyData.keyHash P (.ofString "__cached__"), (.str (.ofString "__cached__") 174), .none⟩, ⟨PyData.keyHash P (.ofString "_wall"), (.str (.ofString "_wall") 193), (.ref 21)⟩, ⟨PyData.keyHash P (.ofString "EVERY"), (.str (.ofString "EVERY") 197), (.int (2) 196)⟩, ⟨PyData.keyHash P (.ofString "AckPolicy"), (.str (.ofString "AckPolicy") 269), (.ref 74)⟩, ⟨PyData.keyHash P (.ofString "Congestion"), (.str (.ofString "Congestion") 380), (.ref 158)⟩, ⟨PyData.keyHash P (.ofString "plus"), (.str (.ofString "plus") 391), (.ref 169)⟩, ⟨PyData.keyHash P (.ofString "distance"), (.str (.ofString "distance") 400), (.ref 176)⟩, ⟨PyData.keyHash P (.ofString "is_before"), (.str (.ofString "is_before") 410), (.ref 183)⟩, ⟨PyData.keyHash P (.ofString "is_at_most"), (.str (.ofString "is_at_most") 419), (.ref 190)⟩, ⟨PyData.keyHash P (.ofString "latest"), (.str (.ofString "latest") 428), (.ref 197)⟩, ⟨PyData.keyHash P (.ofString "MOST_SHIFT"), (.str (.ofString "MOST_SHIFT") 432), (.int (7) 431)⟩, ⟨PyData.keyHash P (.ofString "RetransmitClock"), (.str (.ofString "RetransmitClock") 531), (.ref 270)⟩, ⟨PyData.keyHash P (.ofString "RttEstimate"), (.str (.ofString "RttEstimate") 607), (.ref 326)⟩, ⟨PyData.keyHash P (.ofString "StackError"), (.str (.ofString "StackError") 638), (.ref 347)⟩, ⟨PyData.keyHash P (.ofString "SizeError"), (.str (.ofString "SizeError") 654), (.ref 360)⟩, ⟨PyData.keyHash P (.ofString "StateError"), (.str (.ofString "StateError") 670), (.ref 372)⟩, ⟨PyData.keyHash P (.ofString "SendQueue"), (.str (.ofString "SendQueue") 742), (.ref 426)⟩, ⟨PyData.keyHash P (.ofString "PeerWindow"), (.str (.ofString "PeerWindow") 797), (.ref 461)⟩, ⟨PyData.keyHash P (.ofString "Sender"), (.str (.ofString "Sender") 1034), (.ref 652)⟩, ⟨PyData.keyHash P (.ofString "put16"), (.str (.ofString "put16") 1043), (.ref 663)⟩, ⟨PyData.keyHash P (.ofString "SYN"), (.str (.ofString "SYN") 1047), (.int (2) 1046)⟩, ⟨PyData.keyHash P (.ofString "ACK"), (.str (.ofString "ACK") 1049), (.int (16) 1048)⟩, ⟨PyData.keyHash P (.ofString "OPTION_MSS"), (.str (.ofString "OPTION_MSS") 1051), (.int (2) 1050)⟩, ⟨PyData.keyHash P (.ofString "MSS_SIZE"), (.str (.ofString "MSS_SIZE") 1053), (.int (4) 1052)⟩, ⟨PyData.keyHash P (.ofString "Segment"), (.str (.ofString "Segment") 1123), (.ref 702)⟩, ⟨PyData.keyHash P (.ofString "check_number"), (.str (.ofString "check_number") 1131), (.ref 713)⟩, ⟨PyData.keyHash P (.ofString "mss_option"), (.str (.ofString "mss_option") 1138), (.ref 720)⟩, ⟨PyData.keyHash P (.ofString "CLOSED"), (.str (.ofString "CLOSED") 1140), (.str (.ofString "closed") 1139)⟩, ⟨PyData.keyHash P (.ofString "Wheel"), (.str (.ofString "Wheel") 1234), (.ref 783)⟩, ⟨PyData.keyHash P (.ofString "DELAYED"), (.str (.ofString "DELAYED") 1238), (.int (3) 1237)⟩, ⟨PyData.keyHash P (.ofString "MOST_WINDOW"), (.str (.ofString "MOST_WINDOW") 1240), (.int (65535) 1239)⟩, ⟨PyData.keyHash P (.ofString "Limits"), (.str (.ofString "Limits") 1287), (.ref 804)⟩, ⟨PyData.keyHash P (.ofString "clock_of"), (.str (.ofString "clock_of") 1295), (.ref 815)⟩, ⟨PyData.keyHash P (.ofString "Tcb"), (.str (.ofString "Tcb") 1361), (.ref 847)⟩] 42), #[]⟩
noncomputable def v12x8 (P : Params) : Obj := ⟨.none, none, (.fields #[(.int (1) 0), (.int (0) 0), (.ref 20), (.int (6) 0), (.int (0) 0), (.ref 27), (.int (40) 0), (.int (0) 0), (.ref 84), (.int (98) 0), (.int (0) 0), (.ref 168), (.int (100) 0), (.int (0) 0), (.ref 175), (.int (102) 0), (.int (0) 0), (.ref 182), (.int (105) 0), (.int (0) 0), (.ref 189), (.int (107) 0), (.int (0) 0), (.ref 196), (.int (111) 0), (.int (0) 0), (.ref 203), (.int (157) 0), (.int (0) 0), (.ref 280), (.int (195) 0), (.int (0) 0), (.ref 336), (.int (199) 0), (.int (0) 0), (.ref 356), (.int (201) 0), (.int (0) 0), (.ref 368), (.int (204) 0), (.int (0) 0), (.ref 380), (.int (233) 0), (.int (0) 0), (.ref 436), (.int (258) 0), (.int (0) 0), (.ref 471), (.int (387) 0), (.int (0) 0), (.ref 662), (.int (394) 0), (.int (0) 0), (.ref 669), (.int (415) 0), (.int (0) 0), (.ref 712), (.int (418) 0), (.int (0) 0), (.ref 719), (.int (423) 0), (.int (0) 0), (.ref 726), (.int (479) 0), (.int (0) 0), (.ref 793), (.int (492) 0), (.int (0) 0), (.ref 814), (.int (495) 0), (.int (0) 0), (.ref 821)]), #[]⟩
noncomputable def q8 : List Stmt := [stAt pwB 42, stAt pwB 43, stAt pwB 44, stAt pwB 45]
noncomputable def run8 (w : World) (os : OsState) : Option (Flow × SharedT × Code × Pos) := Fast.tw10110043849684766642 Fast.tw14364793385576792824 p0 w 11 (some (.ref 6)) 1 588 (sT8 w os) (piecesOf q8 env0 cE ⟨478, 0, 478, 11⟩ [topFrame pos0])
noncomputable def tr9 (w : World) (os : OsState) : BT := sets (grow (tr8 w os) (ob (run8 w os)) 788 64) [(3, v3x8 w.params), (12, v12x8 w.params), (800, o800 w.params), (801, o801 w.params), (803, o803 w.params), (804, o804 w.params), (814, o814 w.params), (815, o815 w.params), (828, o828 w.params), (829, o829 w.params), (835, o835 w.params), (836, o836 w.params), (837, o837 w.params), (843, o843 w.params), (844, o844 w.params), (846, o846 w.params), (847, o847 w.params)]
noncomputable def sT9 (w : World) (os : OsState) : SharedT := ⟨tr9 w os, 852, {}, #[], {}, 1364, os⟩
theorem pc8 (w : World) (os : OsState) : run8 w os = some (.next, sT9 w os, cE, ⟨528, 0, 528, 8⟩) := by
  kernel_rfl
noncomputable def v3x9 (P : Params) : Obj := ⟨(.type "dict"), none, (.dict #[⟨PyData.keyHash P (.ofString "__name__"), (.str (.ofString "__name__") 165), (.str (.ofString "thinstack.receiver") 1520)⟩, ⟨PyData.keyHash P (.ofString "__doc__"), (.str (.ofString "__doc__") 166), .none⟩, ⟨PyData.keyHash P (.ofString "__package__"), (.str (.ofString "__package__") 167), .none⟩, ⟨PyData.keyHash P (.ofString "__loader__"), (.str (.ofString "__loader__") 168), (.builtin "__main__.__loader__#opaque")⟩, ⟨PyData.keyHash P (.ofString "__spec__"), (.str (.ofString "__spec__") 169), .none⟩, ⟨PyData.keyHash P (.ofString "__annotations__"), (.str (.ofString "__annotations__") 170), (.ref 6)⟩, ⟨PyData.keyHash P (.ofString "__builtins__"), (.str (.ofString "__builtins__") 171), (.ref 4)⟩, ⟨PyData.keyHash P (.ofString "__file__"), (.str (.ofString "__file__") 173), (.str (.ofString "/claim/cut.py") 172)⟩, ⟨PyData.keyHash P (.ofString "__cached__"), (.str (.ofString "__cached__") 174), .none⟩, ⟨PyData.keyHash P (.ofString "_wall"), (.str (.ofString "_wall") 193), (.ref 21)⟩, ⟨PyData.keyHash P (.ofString "EVERY"), (.str (.ofString "EVERY") 197), (.int (2) 196)⟩, ⟨PyData.keyHash P (.ofString "AckPolicy"), (.str (.ofString "AckPolicy") 269), (.ref 74)⟩, ⟨PyData.keyHash P (.ofString "Congestion"), (.str (.ofString "Congestion") 380), (.ref 158)⟩, ⟨PyData.keyHash P (.ofString "plus"), (.str (.ofString "plus") 391), (.ref 169)⟩, ⟨PyData.keyHash P (.ofString "distance"), (.str (.ofString "distance") 400), (.ref 176)⟩, ⟨PyData.keyHash P (.ofString "is_before"), (.str (.ofString "is_before") 410), (.ref 183)⟩, ⟨PyData.keyHash P (.ofString "is_at_most"), (.str (.ofString "is_at_most") 419), (.ref 190)⟩, ⟨PyData.keyHash P (.ofString "latest"), (.str (.ofString "latest") 428), (.ref 197)⟩, ⟨PyData.keyHash P (.ofString "MOST_SHIFT"), (.str (.ofString "MOST_SHIFT") 432), (.int (7) 431)⟩, ⟨PyData.keyHash P (.ofString "RetransmitClock"), (.str (.ofString "RetransmitClock") 531), (.ref 270)⟩, ⟨PyData.keyHash P (.ofString "RttEstimate"), (.str (.ofString "RttEstimate") 607), (.ref 326)⟩, ⟨PyData.keyHash P (.ofString "StackError"), (.str (.ofString "StackError") 638), (.ref 347)⟩, ⟨PyData.keyHash P (.ofString "SizeError"), (.str (.ofString "SizeError") 654), (.ref 360)⟩, ⟨PyData.keyHash P (.ofString "StateError"), (.str (.ofString "StateError") 670), (.ref 372)⟩, ⟨PyData.keyHash P (.ofString "SendQueue"), (.str (.ofString "SendQueue") 742), (.ref 426)⟩, ⟨PyData.keyHash P (.ofString "PeerWindow"), (.str (.ofString "PeerWindow") 797), (.ref 461)⟩, ⟨PyData.keyHash P (.ofString "Sender"), (.str (.ofString "Sender") 1034), (.ref 652)⟩, ⟨PyData.keyHash P (.ofString "put16"), (.str (.ofString "put16") 1043), (.ref 663)⟩, ⟨PyData.keyHash P (.ofString "SYN"), (.str (.ofString "SYN") 1047), (.int (2) 1046)⟩, ⟨PyData.keyHash P (.ofString "ACK"), (.str (.ofString "ACK") 1049), (.int (16) 1048)⟩, ⟨PyData.keyHash P (.ofString "OPTION_MSS"), (.str (.ofString "OPTION_MSS") 1051), (.int (2) 1050)⟩, ⟨PyData.keyHash P (.ofString "MSS_SIZE"), (.str (.ofString "MSS_SIZE") 1053), (.int (4) 1052)⟩, ⟨PyData.keyHash P (.ofString "Segment"), (.str (.ofString "Segment") 1123), (.ref 702)⟩, ⟨PyData.keyHash P (.ofString "check_number"), (.str (.ofString "check_number") 1131), (.ref 713)⟩, ⟨PyData.keyHash P (.ofString "mss_option"), (.str (.ofString "mss_option") 1138), (.ref 720)⟩, ⟨PyData.keyHash P (.ofString "CLOSED"), (.str (.ofString "CLOSED") 1140), (.str (.ofString "closed") 1139)⟩, ⟨PyData.keyHash P (.ofString "Wheel"), (.str (.ofString "Wheel") 1234), (.ref 783)⟩, ⟨PyData.keyHash P (.ofString "DELAYED"), (.str (.ofString "DELAYED") 1238), (.int (3) 1237)⟩, ⟨PyData.keyHash P (.ofString "MOST_WINDOW"), (.str (.ofString "MOST_WINDOW") 1240), (.int (65535) 1239)⟩, ⟨PyData.keyHash P (.ofString "Limits"), (.str (.ofString "Limits") 1287), (.ref 804)⟩, ⟨PyData.keyHash P (.ofString "clock_of"), (.str (.ofString "clock_of") 1295), (.ref 815)⟩, ⟨PyData.keyHash P (.ofString "Tcb"), (.str (.ofString "Tcb") 1361), (.ref 847)⟩, ⟨PyData.keyHash P (.ofString "Assembly"), (.str (.ofString "Assembly") 1519), (.ref 943)⟩] 43), #[]⟩
noncomputable def v12x9 (P : Params) : Obj := ⟨.none, none, (.fields #[(.int (1) 0), (.int (0) 0), (.ref 20), (.int (6) 0), (.int (0) 0), (.ref 27), (.int (40) 0), (.int (0) 0), (.ref 84), (.int (98) 0), (.int (0) 0), (.ref 168), (.int (100) 0), (.int (0) 0), (.ref 175), (.int (102) 0), (.int (0) 0), (.ref 182), (.int (105) 0), (.int (0) 0), (.ref 189), (.int (107) 0), (.int (0) 0), (.ref 196), (.int (111) 0), (.int (0) 0), (.ref 203), (.int (157) 0), (.int (0) 0), (.ref 280), (.int (195) 0), (.int (0) 0), (.ref 336), (.int (199) 0), (.int (0) 0), (.ref 356), (.int (201) 0), (.int (0) 0), (.ref 368), (.int (204) 0), (.int (0) 0), (.ref 380), (.int (233) 0), (.int (0) 0), (.ref 436), (.int (258) 0), (.int (0) 0), (.ref 471), (.int (387) 0), (.int (0) 0), (.ref 662), (.int (394) 0), (.int (0) 0), (.ref 669), (.int (415) 0), (.int (0) 0), (.ref 712), (.int (418) 0), (.int (0) 0), (.ref 719), (.int (423) 0), (.int (0) 0), (.ref 726), (.int (479) 0), (.int (0) 0), (.ref 793), (.int (492) 0), (.int (0) 0), (.ref 814), (.int (495) 0), (.int (0) 0), (.ref 821), (.int (529) 0), (.int (0) 0), (.ref 857)]), #[]⟩
noncomputable def q9 : List Stmt := [stAt pwB 46, stAt pwB 47]
noncomputable def run9 (w : World) (os : OsState) : Option (Flow × SharedT × Code × Pos) := Fast.tw10110043849684766642 Fast.tw14364793385576792824 p0 w 11 (some (.ref 6)) 1 621 (sT9 w os) (piecesOf q9 env0 cE ⟨528, 0, 528, 8⟩ [topFrame pos0])
noncomputable def tr10 (w : World) (os : OsState) : BT := sets (grow (tr9 w os) (ob (run9 w os)) 852 96) [(3, v3x9 w.params), (12, v12x9 w.params), (864, o864 w.params), (865, o865 w.params), (883, o883 w.params), (884, o884 w.params), (890, o890 w.params), (891, o891 w.params), (897, o897 w.params), (898, o898 w.params), (904, o904 w.params), (905, o905 w.params), (911, o911 w.params), (912, o912 w.params), (918, o918 w.params), (919, o919 w.params), (925, o925 w.params), (926, o926 w.params), (942, o942 w.params), (943, o943 w.params)]
noncomputable def sT10 (w : World) (os : OsState) : SharedT := ⟨tr10 w os, 948, {}, #[], {}, 1522, os⟩
theorem pc9 (w : World) (os : OsState) : run9 w os = some (.next, sT10 w os, cE, ⟨627, 0, 627, 8⟩) := by
  kernel_rfl
noncomputable def v3x10 (P : Params) : Obj := ⟨(.type "dict"), none, (.dict #[⟨PyData.keyHash P (.ofString "__name__"), (.str (.ofString "__name__") 165), (.str (.ofString "law_on0348_01") 1694)⟩, ⟨PyData.keyHash P (.ofString "__doc__"), (.str (.ofString "__doc__") 166), .none⟩, ⟨PyData.keyHash P (.ofString "__package__"), (.str (.ofString "__package__") 167), .none⟩, ⟨PyData.keyHash P (.ofString "__loader__"), (.str (.ofString "__loader__") 168), (.builtin "__main__.__loader__#opaque")⟩, ⟨PyData.keyHash P (.ofString "__spec__"), (.str (.ofString "__spec__") 169), .none⟩, ⟨PyData.keyHash P (.ofString "__annotations__"), (.str (.ofString "__annotations__") 170), (.ref 6)⟩, ⟨PyData.keyHash P (.ofString "__builtins__"), (.str (.ofString "__builtins__") 171), (.ref 4)⟩, ⟨PyData.keyHash P (.ofString "__file__"), (.str (.ofString "__file__") 173), (.str (.ofString "/claim/cut.py") 172)⟩, ⟨PyData.keyHash P (.ofString "__cached__"), (.str (.ofString "__cached__") 174), .none⟩, ⟨PyData.keyHash P (.ofString "_wall"), (.str (.ofString "_wall") 193), (.ref 21)⟩, ⟨PyData.keyHash P (.ofString "EVERY"), (.str (.ofString "EVERY") 197), (.int (2) 196)⟩, ⟨PyData.keyHash P (.ofString "AckPolicy"), (.str (.ofString "AckPolicy") 269), (.ref 74)⟩, ⟨PyData.keyHash P (.ofString "Congestion"), (.str (.ofString "Congestion") 380), (.ref 158)⟩, ⟨PyData.keyHash P (.ofString "plus"), (.str (.ofString "plus") 391), (.ref 169)⟩, ⟨PyData.keyHash P (.ofString "distance"), (.str (.ofString "distance") 400), (.ref 176)⟩, ⟨PyData.keyHash P (.ofString "is_before"), (.str (.ofString "is_before") 410), (.ref 183)⟩, ⟨PyData.keyHash P (.ofString "is_at_most"), (.str (.ofString "is_at_most") 419), (.ref 190)⟩, ⟨PyData.keyHash P (.ofString "latest"), (.str (.ofString "latest") 428), (.ref 197)⟩, ⟨PyData.keyHash P (.ofString "MOST_SHIFT"), (.str (.ofString "MOST_SHIFT") 432), (.int (7) 431)⟩, ⟨PyData.keyHash P (.ofString "RetransmitClock"), (.str (.ofString "RetransmitClock") 531), (.ref 270)⟩, ⟨PyData.keyHash P (.ofString "RttEstimate"), (.str (.ofString "RttEstimate") 607), (.ref 326)⟩, ⟨PyData.keyHash P (.ofString "StackError"), (.str (.ofString "StackError") 638), (.ref 347)⟩, ⟨PyData.keyHash P (.ofString "SizeError"), (.str (.ofString "SizeError") 654), (.ref 360)⟩, ⟨PyData.keyHash P (.ofString "StateError"), (.str (.ofString "StateError") 670), (.ref 372)⟩, ⟨PyData.keyHash P (.ofString "SendQueue"), (.str (.ofString "SendQueue") 742), (.ref 426)⟩, ⟨PyData.keyHash P (.ofString "PeerWindow"), (.str (.ofString "PeerWindow") 797), (.ref 461)⟩, ⟨PyData.keyHash P (.ofString "Sender"), (.str (.ofString "Sender") 1034), (.ref 652)⟩, ⟨PyData.keyHash P (.ofString "put16"), (.str (.ofString "put16") 1043), (.ref 663)⟩, ⟨PyData.keyHash P (.ofString "SYN"), (.str (.ofString "SYN") 1047), (.int (2) 1046)⟩, ⟨PyData.keyHash P (.ofString "ACK"), (.str (.ofString "ACK") 1049), (.int (16) 1048)⟩, ⟨PyData.keyHash P (.ofString "OPTION_MSS"), (.str (.ofString "OPTION_MSS") 1051), (.int (2) 1050)⟩, ⟨PyData.keyHash P (.ofString "MSS_SIZE"), (.str (.ofString "MSS_SIZE") 1053), (.int (4) 1052)⟩, ⟨PyData.keyHash P (.ofString "Segment"), (.str (.ofString "Segment") 1123), (.ref 702)⟩, ⟨PyData.keyHash P (.ofString "check_number"), (.str (.ofString "check_number") 1131), (.ref 713)⟩, ⟨PyData.keyHash P (.ofString "mss_option"), (.str (.ofString "mss_option") 1138), (.ref 720)⟩, ⟨PyData.keyHash P (.ofString "CLOSED"), (.str (.ofString "CLOSED") 1140), (.str (.ofString "closed") 1139)⟩, ⟨PyData.keyHash P (.ofString "Wheel"), (.str (.ofString "Wheel") 1234), (.ref 783)⟩, ⟨PyData.keyHash P (.ofString "DELAYED"), (.str (.ofString "DELAYED") 1238), (.int (3) 1237)⟩, ⟨PyData.keyHash P (.ofString "MOST_WINDOW"), (.str (.ofString "MOST_WINDOW") 1240), (.int (65535) 1239)⟩, ⟨PyData.keyHash P (.ofString "Limits"), (.str (.ofString "Limits") 1287), (.ref 804)⟩, ⟨PyData.keyHash P (.ofString "clock_of"), (.str (.ofString "clock_of") 1295), (.ref 815)⟩, ⟨PyData.keyHash P (.ofString "Tcb"), (.str (.ofString "Tcb") 1361), (.ref 847)⟩, ⟨PyData.keyHash P (.ofString "Assembly"), (.str (.ofString "Assembly") 1519), (.ref 943)⟩, ⟨PyData.keyHash P (.ofString "Receiver"), (.str (.ofString "Receiver") 1693), (.ref 1077)⟩] 44), #[]⟩
noncomputable def v12x10 (P : Params) : Obj := ⟨.none, none, (.fields #[(.int (1) 0), (.int (0) 0), (.ref 20), (.int (6) 0), (.int (0) 0), (.ref 27), (.int (40) 0), (.int (0) 0), (.ref 84), (.int (98) 0), (.int (0) 0), (.ref 168), (.int (100) 0), (.int (0) 0), (.ref 175), (.int (102) 0), (.int (0) 0), (.ref 182), (.int (105) 0), (.int (0) 0), (.ref 189), (.int (107) 0), (.int (0) 0), (.ref 196), (.int (111) 0), (.int (0) 0), (.ref 203), (.int (157) 0), (.int (0) 0), (.ref 280), (.int (195) 0), (.int (0) 0), (.ref 336), (.int (199) 0), (.int (0) 0), (.ref 356), (.int (201) 0), (.int (0) 0), (.ref 368), (.int (204) 0), (.int (0) 0), (.ref 380), (.int (233) 0), (.int (0) 0), (.ref 436), (.int (258) 0), (.int (0) 0), (.ref 471), (.int (387) 0), (.int (0) 0), (.ref 662), (.int (394) 0), (.int (0) 0), (.ref 669), (.int (415) 0), (.int (0) 0), (.ref 712), (.int (418) 0), (.int (0) 0), (.ref 719), (.int (423) 0), (.int (0) 0), (.ref 726), (.int (479) 0), (.int (0) 0), (.ref 793), (.int (492) 0), (.int (0) 0), (.ref 814), (.int (495) 0), (.int (0) 0), (.ref 821), (.int (529) 0), (.int (0) 0), (.ref 857), (.int (628) 0), (.int (0) 0), (.ref 953)]), #[]⟩
noncomputable def q10 : List Stmt := [stAt pwB 48, stAt pwB 49]
noncomputable def run10 (w : World) (os : OsState) : Option (Flow × SharedT × Code × Pos) := Fast.tw10110043849684766642 Fast.tw14364793385576792824 p0 w 11 (some (.ref 6)) 1 760 (sT10 w os) (piecesOf q10 env0 cE ⟨627, 0, 627, 8⟩ [topFrame pos0])
noncomputable def tr11 (w : World) (os : OsState) : BT := sets (grow (tr10 w os) (ob (run10 w os)) 948 134) [(3, v3x10 w.params), (12, v12x10 w.params), (955, o955 w.params), (961, o961 w.params), (962, o962 w.params), (968, o968 w.params), (969, o969 w.params), (975, o975 w.params), (976, o976 w.params), (982, o982 w.params), (983, o983 w.params), (989, o989 w.params), (990, o990 w.params), (996, o996 w.params), (997, o997 w.params), (1003, o1003 w.params), (1004, o1004 w.params), (1024, o1024 w.params), (1025, o1025 w.params), (1045, o1045 w.params), (1046, o1046 w.params), (1076, o1076 w.params), (1077, o1077 w.params)]
noncomputable def sT11 (w : World) (os : OsState) : SharedT := ⟨tr11 w os, 1082, {}, #[], {}, 1696, os⟩
theorem pc10 (w : World) (os : OsState) : run10 w os = some (.next, sT11 w os, cE, ⟨724, 0, 724, 8⟩) := by
  kernel_rfl
noncomputable def v3x11 (P : Params) : Obj := ⟨(.type "dict"), none, (.dict #[⟨PyData.keyHash P (.ofString "__name__"), (.str (.ofString "__name__") 165), (.str (.ofString "law_on0348_01") 1694)⟩, ⟨PyData.keyHash P (.ofString "__doc__"), (.str (.ofString "__doc__") 166), .none⟩, ⟨PyData.keyHash P (.ofString "__package__"), (.str (.ofString "__package__") 167), .none⟩, ⟨PyData.keyHash P (.ofString "__loader__"), (.str (.ofString "__loader__") 168), (.builtin "__main__.__loader__#opaque")⟩, ⟨PyData.keyHash P (.ofString "__spec__"), (.str (.ofString "__spec__") 169), .none⟩, ⟨PyData.keyHash P (.ofString "__annotations__"), (.str (.ofString "__annotations__") 170), (.ref 6)⟩, ⟨PyData.keyHash P (.ofString "__builtins__"), (.str (.ofString "__builtins__") 171), (.ref 4)⟩, ⟨PyData.keyHash P (.ofString "__file__"), (.str (.ofString "__file__") 173), (.str (.ofString "/claim/cut.py") 172)⟩, ⟨PyData.keyHash P (.ofString "__cached__"), (.str (.ofString "__cached__") 174), .none⟩, ⟨PyData.keyHash P (.ofString "_wall"), (.str (.ofString "_wall") 193), (.ref 21)⟩, ⟨PyData.keyHash P (.ofString "EVERY"), (.str (.ofString "EVERY") 197), (.int (2) 196)⟩, ⟨PyData.keyHash P (.ofString "AckPolicy"), (.str (.ofString "AckPolicy") 269), (.ref 74)⟩, ⟨PyData.keyHash P (.ofString "Congestion"), (.str (.ofString "Congestion") 380), (.ref 158)⟩, ⟨PyData.keyHash P (.ofString "plus"), (.str (.ofString "plus") 391), (.ref 169)⟩, ⟨PyData.keyHash P (.ofString "distance"), (.str (.ofString "distance") 400), (.ref 176)⟩, ⟨PyData.keyHash P (.ofString "is_before"), (.str (.ofString "is_before") 410), (.ref 183)⟩, ⟨PyData.keyHash P (.ofString "is_at_most"), (.str (.ofString "is_at_most") 419), (.ref 190)⟩, ⟨PyData.keyHash P (.ofString "latest"), (.str (.ofString "latest") 428), (.ref 197)⟩, ⟨PyData.keyHash P (.ofString "MOST_SHIFT"), (.str (.ofString "MOST_SHIFT") 432), (.int (7) 431)⟩, ⟨PyData.keyHash P (.ofString "RetransmitClock"), (.str (.ofString "RetransmitClock") 531), (.ref 270)⟩, ⟨PyData.keyHash P (.ofString "RttEstimate"), (.str (.ofString "RttEstimate") 607), (.ref 326)⟩, ⟨PyData.keyHash P (.ofString "StackError"), (.str (.ofString "StackError") 638), (.ref 347)⟩, ⟨PyData.keyHash P (.ofString "SizeError"), (.str (.ofString "SizeError") 654), (.ref 360)⟩, ⟨PyData.keyHash P (.ofString "StateError"), (.str (.ofString "StateError") 670), (.ref 372)⟩, ⟨PyData.keyHash P (.ofString "SendQueue"), (.str (.ofString "SendQueue") 742), (.ref 426)⟩, ⟨PyData.keyHash P (.ofString "PeerWindow"), (.str (.ofString "PeerWindow") 797), (.ref 461)⟩, ⟨PyData.keyHash P (.ofString "Sender"), (.str (.ofString "Sender") 1034), (.ref 652)⟩, ⟨PyData.keyHash P (.ofString "put16"), (.str (.ofString "put16") 1043), (.ref 663)⟩, ⟨PyData.keyHash P (.ofString "SYN"), (.str (.ofString "SYN") 1047), (.int (2) 1046)⟩, ⟨PyData.keyHash P (.ofString "ACK"), (.str (.ofString "ACK") 1049), (.int (16) 1048)⟩, ⟨PyData.keyHash P (.ofString "OPTION_MSS"), (.str (.ofString "OPTION_MSS") 1051), (.int (2) 1050)⟩, ⟨PyData.keyHash P (.ofString "MSS_SIZE"), (.str (.ofString "MSS_SIZE") 1053), (.int (4) 1052)⟩, ⟨PyData.keyHash P (.ofString "Segment"), (.str (.ofString "Segment") 1123), (.ref 702)⟩, ⟨PyData.keyHash P (.ofString "check_number"), (.str (.ofString "check_number") 1131), (.ref 713)⟩, ⟨PyData.keyHash P (.ofString "mss_option"), (.str (.ofString "mss_option") 1138), (.ref 720)⟩, ⟨PyData.keyHash P (.ofString "CLOSED"), (.str (.ofString "CLOSED") 1140), (.str (.ofString "closed") 1139)⟩, ⟨PyData.keyHash P (.ofString "Wheel"), (.str (.ofString "Wheel") 1234), (.ref 783)⟩, ⟨PyData.keyHash P (.ofString "DELAYED"), (.str (.ofString "DELAYED") 1238), (.int (3) 1237)⟩, ⟨PyData.keyHash P (.ofString "MOST_WINDOW"), (.str (.ofString "MOST_WINDOW") 1240), (.int (65535) 1239)⟩, ⟨PyData.keyHash P (.ofString "Limits"), (.str (.ofString "Limits") 1287), (.ref 804)⟩, ⟨PyData.keyHash P (.ofString "clock_of"), (.str (.ofString "clock_of") 1295), (.ref 815)⟩, ⟨PyData.keyHash P (.ofString "Tcb"), (.str (.ofString "Tcb") 1361), (.ref 847)⟩, ⟨PyData.keyHash P (.ofString "Assembly"), (.str (.ofString "Assembly") 1519), (.ref 943)⟩, ⟨PyData.keyHash P (.ofString "Receiver"), (.str (.ofString "Receiver") 1693), (.ref 1077)⟩, ⟨PyData.keyHash P (.ofString "_law_pool"), (.str (.ofString "_law_pool") 1706), (.ref 1088)⟩, ⟨PyData.keyHash P (.ofString "_law_take"), (.str (.ofString "_law_take") 1715), (.ref 1095)⟩, ⟨PyData.keyHash P (.ofString "_law_one"), (.str (.ofString "_law_one") 1723), (.ref 1102)⟩, ⟨PyData.keyHash P (.ofString "_law_limits"), (.str (.ofString "_law_limits") 1733), (.ref 1109)⟩, ⟨PyData.keyHash P (.ofString "_law_clock_right"), (.str (.ofString "_law_clock_right") 1745), (.ref 1116)⟩, ⟨PyData.keyHash P (.ofString "_law_segment_right"), (.str (.ofString "_law_segment_right") 1764), (.ref 1123)⟩, ⟨PyData.keyHash P (.ofString "_law_round_right"), (.str (.ofString "_law_round_right") 1779), (.ref 1130)⟩, ⟨PyData.keyHash P (.ofString "law"), (.str (.ofString "law") 1799), (.ref 1137)⟩] 52), #[]⟩
noncomputable def v12x11 (P : Params) : Obj := ⟨.none, none, (.fields #[(.int (1) 0), (.int (0) 0), (.ref 20), (.int (6) 0), (.int (0) 0), (.ref 27), (.int (40) 0), (.int (0) 0), (.ref 84), (.int (98) 0), (.int (0) 0), (.ref 168), (.int (100) 0), (.int (0) 0), (.ref 175), (.int (102) 0), (.int (0) 0), (.ref 182), (.int (105) 0), (.int (0) 0), (.ref 189), (.int (107) 0), (.int (0) 0), (.ref 196), (.int (111) 0), (.int (0) 0), (.ref 203), (.int (157) 0), (.int (0) 0), (.ref 280), (.int (195) 0), (.int (0) 0), (.ref 336), (.int (199) 0), (.int (0) 0), (.ref 356), (.int (201) 0), (.int (0) 0), (.ref 368), (.int (204) 0), (.int (0) 0), (.ref 380), (.int (233) 0), (.int (0) 0), (.ref 436), (.int (258) 0), (.int (0) 0), (.ref 471), (.int (387) 0), (.int (0) 0), (.ref 662), (.int (394) 0), (.int (0) 0), (.ref 669), (.int (415) 0), (.int (0) 0), (.ref 712), (.int (418) 0), (.int (0) 0), (.ref 719), (.int (423) 0), (.int (0) 0), (.ref 726), (.int (479) 0), (.int (0) 0), (.ref 793), (.int (492) 0), (.int (0) 0), (.ref 814), (.int (495) 0), (.int (0) 0), (.ref 821), (.int (529) 0), (.int (0) 0), (.ref 857), (.int (628) 0), (.int (0) 0), (.ref 953), (.int (725) 0), (.int (0) 0), (.ref 1087), (.int (730) 0), (.int (0) 0), (.ref 1094), (.int (737) 0), (.int (0) 0), (.ref 1101), (.int (739) 0), (.int (0) 0), (.ref 1108), (.int (744) 0), (.int (0) 0), (.ref 1115), (.int (752) 0), (.int (0) 0), (.ref 1122), (.int (773) 0), (.int (0) 0), (.ref 1129), (.int (786) 0), (.int (0) 0), (.ref 1136)]), #[]⟩
noncomputable def q11 : List Stmt := [stAt pwB 50, stAt pwB 51, stAt pwB 52, stAt pwB 53, stAt pwB 54, stAt pwB 55, stAt pwB 56, stAt pwB 57]
noncomputable def run11 (w : World) (os : OsState) : Option (Flow × SharedT × Code × Pos) := Fast.tw10110043849684766642 Fast.tw14364793385576792824 p0 w 11 (some (.ref 6)) 1 281 (sT11 w os) (piecesOf q11 env0 cE ⟨724, 0, 724, 8⟩ [topFrame pos0])
noncomputable def tr12 (w : World) (os : OsState) : BT := sets (grow (tr11 w os) (ob (run11 w os)) 1082 56) [(3, v3x11 w.params), (12, v12x11 w.params), (1087, o1087 w.params), (1088, o1088 w.params), (1094, o1094 w.params), (1095, o1095 w.params), (1101, o1101 w.params), (1102, o1102 w.params), (1108, o1108 w.params), (1109, o1109 w.params), (1115, o1115 w.params), (1116, o1116 w.params), (1122, o1122 w.params), (1123, o1123 w.params), (1129, o1129 w.params), (1130, o1130 w.params), (1136, o1136 w.params), (1137, o1137 w.params)]
noncomputable def sT12 (w : World) (os : OsState) : SharedT := ⟨tr12 w os, 1138, {}, #[], {}, 1800, os⟩
theorem pc11 (w : World) (os : OsState) : run11 w os = some (.next, sT12 w os, cE, ⟨786, 0, 803, 15⟩) := by
  kernel_rfl
end Mine
end PartHdD
section PartHdE
open PySem PySem.W PyProof.Rows
set_option Elab.async false
set_option maxRecDepth 100000
set_option maxHeartbeats 400000
namespace Mine
theorem bridge {w : World} {m : Nat} {ann : Option Value} {b n : Nat} {s : SharedT} {t : Thread} {r : Option (Flow × SharedT × Code × Pos)} (h : Fast.tw10110043849684766642 Fast.tw14364793385576792824 p0 w m ann b n s t = r) : segRunT treeTable p0 w m ann b n s t = r := by
  rw [te_seg, te_tab]
  exact h
theorem fin2 (w : World) (s : Shared) (q : Pos) : topRun treeTable p0 w 11 (some (.ref 6)) 2 s ⟨doneF .next, cE, q, [topFrame pos0]⟩ = some s := rfl
theorem sg0 (w : World) (os : OsState) : segRun treeTable p0 w 11 (some (.ref 6)) 1 443 (sT0 w os).abs (piecesOf q0 env0 cE ⟨0, 0, 0, 0⟩ [topFrame pos0]) = some (.next, (sT1 w os).abs, cE, ⟨39, 0, 39, 8⟩) := by
  have h := pc0 w os
  exact segRun_of (bridge h)
theorem sg1 (w : World) (os : OsState) : segRun treeTable p0 w 11 (some (.ref 6)) 1 702 (sT1 w os).abs (piecesOf q1 env0 cE ⟨39, 0, 39, 8⟩ [topFrame pos0]) = some (.next, (sT2 w os).abs, cE, ⟨110, 0, 110, 10⟩) := by
  have h := pc1 w os
  exact segRun_of (bridge h)
theorem sg2 (w : World) (os : OsState) : segRun treeTable p0 w 11 (some (.ref 6)) 1 890 (sT2 w os).abs (piecesOf q2 env0 cE ⟨110, 0, 110, 10⟩ [topFrame pos0]) = some (.next, (sT3 w os).abs, cE, ⟨194, 0, 194, 8⟩) := by
  have h := pc2 w os
  exact segRun_of (bridge h)
theorem sg3 (w : World) (os : OsState) : segRun treeTable p0 w 11 (some (.ref 6)) 1 664 (sT3 w os).abs (piecesOf q3 env0 cE ⟨194, 0, 194, 8⟩ [topFrame pos0]) = some (.next, (sT4 w os).abs, cE, ⟨203, 0, 203, 8⟩) := by
  have h := pc3 w os
  exact segRun_of (bridge h)
theorem sg4 (w : World) (os : OsState) : segRun treeTable p0 w 11 (some (.ref 6)) 1 687 (sT4 w os).abs (piecesOf q4 env0 cE ⟨203, 0, 203, 8⟩ [topFrame pos0]) = some (.next, (sT5 w os).abs, cE, ⟨233, 0, 257, 19⟩) := by
  have h := pc4 w os
  exact segRun_of (bridge h)
theorem sg5 (w : World) (os : OsState) : segRun treeTable p0 w 11 (some (.ref 6)) 1 1065 (sT5 w os).abs (piecesOf q5 env0 cE ⟨233, 0, 257, 19⟩ [topFrame pos0]) = some (.next, (sT6 w os).abs, cE, ⟨258, 0, 385, 60⟩) := by
  have h := pc5 w os
  exact segRun_of (bridge h)
theorem sg6 (w : World) (os : OsState) : segRun treeTable p0 w 11 (some (.ref 6)) 1 497 (sT6 w os).abs (piecesOf q6 env0 cE ⟨258, 0, 385, 60⟩ [topFrame pos0]) = some (.next, (sT7 w os).abs, cE, ⟨422, 0, 422, 8⟩) := by
  have h := pc6 w os
  exact segRun_of (bridge h)
theorem sg7 (w : World) (os : OsState) : segRun treeTable p0 w 11 (some (.ref 6)) 1 478 (sT7 w os).abs (piecesOf q7 env0 cE ⟨422, 0, 422, 8⟩ [topFrame pos0]) = some (.next, (sT8 w os).abs, cE, ⟨478, 0, 478, 11⟩) := by
  have h := pc7 w os
  exact segRun_of (bridge h)
theorem sg8 (w : World) (os : OsState) : segRun treeTable p0 w 11 (some (.ref 6)) 1 588 (sT8 w os).abs (piecesOf q8 env0 cE ⟨478, 0, 478, 11⟩ [topFrame pos0]) = some (.next, (sT9 w os).abs, cE, ⟨528, 0, 528, 8⟩) := by
  have h := pc8 w os
  exact segRun_of (bridge h)
theorem sg9 (w : World) (os : OsState) : segRun treeTable p0 w 11 (some (.ref 6)) 1 621 (sT9 w os).abs (piecesOf q9 env0 cE ⟨528, 0, 528, 8⟩ [topFrame pos0]) = some (.next, (sT10 w os).abs, cE, ⟨627, 0, 627, 8⟩) := by
  have h := pc9 w os
  exact segRun_of (bridge h)
theorem sg10 (w : World) (os : OsState) : segRun treeTable p0 w 11 (some (.ref 6)) 1 760 (sT10 w os).abs (piecesOf q10 env0 cE ⟨627, 0, 627, 8⟩ [topFrame pos0]) = some (.next, (sT11 w os).abs, cE, ⟨724, 0, 724, 8⟩) := by
  have h := pc10 w os
  exact segRun_of (bridge h)
theorem sg11 (w : World) (os : OsState) : segRun treeTable p0 w 11 (some (.ref 6)) 1 281 (sT11 w os).abs (piecesOf q11 env0 cE ⟨724, 0, 724, 8⟩ [topFrame pos0]) = some (.next, (sT12 w os).abs, cE, ⟨786, 0, 803, 15⟩) := by
  have h := pc11 w os
  exact segRun_of (bridge h)
theorem whole : behindTheImports p0 = q0 ++ (q1 ++ (q2 ++ (q3 ++ (q4 ++ (q5 ++ (q6 ++ (q7 ++ (q8 ++ (q9 ++ (q10 ++ (q11 ++ []))))))))))) := by kernel_rfl
theorem ch12 (w : World) (os : OsState) : topRun treeTable p0 w 11 (some (.ref 6)) 2 (sT12 w os).abs (restOf [] env0 cE ⟨786, 0, 803, 15⟩ [topFrame pos0]) = some (sT12 w os).abs := piece_nil (fin2 w _ _)
theorem ch11 (w : World) (os : OsState) : topRun treeTable p0 w 11 (some (.ref 6)) (281 + 2) (sT11 w os).abs (restOf (q11 ++ []) env0 cE ⟨724, 0, 724, 8⟩ [topFrame pos0]) = some (sT12 w os).abs := piece_app (sg11 w os) (ch12 w os)
theorem ch10 (w : World) (os : OsState) : topRun treeTable p0 w 11 (some (.ref 6)) (760 + (281 + 2)) (sT10 w os).abs (restOf (q10 ++ (q11 ++ [])) env0 cE ⟨627, 0, 627, 8⟩ [topFrame pos0]) = some (sT12 w os).abs := piece_app (sg10 w os) (ch11 w os)
theorem ch9 (w : World) (os : OsState) : topRun treeTable p0 w 11 (some (.ref 6)) (621 + (760 + (281 + 2))) (sT9 w os).abs (restOf (q9 ++ (q10 ++ (q11 ++ []))) env0 cE ⟨528, 0, 528, 8⟩ [topFrame pos0]) = some (sT12 w os).abs := piece_app (sg9 w os) (ch10 w os)
theorem ch8 (w : World) (os : OsState) : topRun treeTable p0 w 11 (some (.ref 6)) (588 + (621 + (760 + (281 + 2)))) (sT8 w os).abs (restOf (q8 ++ (q9 ++ (q10 ++ (q11 ++ [])))) env0 cE ⟨478, 0, 478, 11⟩ [topFrame pos0]) = some (sT12 w os).abs := piece_app (sg8 w os) (ch9 w os)
theorem ch7 (w : World) (os : OsState) : topRun treeTable p0 w 11 (some (.ref 6)) (478 + (588 + (621 + (760 + (281 + 2))))) (sT7 w os).abs (restOf (q7 ++ (q8 ++ (q9 ++ (q10 ++ (q11 ++ []))))) env0 cE ⟨422, 0, 422, 8⟩ [topFrame pos0]) = some (sT12 w os).abs := piece_app (sg7 w os) (ch8 w os)
theorem ch6 (w : World) (os : OsState) : topRun treeTable p0 w 11 (some (.ref 6)) (497 + (478 + (588 + (621 + (760 + (281 + 2)))))) (sT6 w os).abs (restOf (q6 ++ (q7 ++ (q8 ++ (q9 ++ (q10 ++ (q11 ++ [])))))) env0 cE ⟨258, 0, 385, 60⟩ [topFrame pos0]) = some (sT12 w os).abs := piece_app (sg6 w os) (ch7 w os)
theorem ch5 (w : World) (os : OsState) : topRun treeTable p0 w 11 (some (.ref 6)) (1065 + (497 + (478 + (588 + (621 + (760 + (281 + 2))))))) (sT5 w os).abs (restOf (q5 ++ (q6 ++ (q7 ++ (q8 ++ (q9 ++ (q10 ++ (q11 ++ []))))))) env0 cE ⟨233, 0, 257, 19⟩ [topFrame pos0]) = some (sT12 w os).abs := piece_app (sg5 w os) (ch6 w os)
theorem ch4 (w : World) (os : OsState) : topRun treeTable p0 w 11 (some (.ref 6)) (687 + (1065 + (497 + (478 + (588 + (621 + (760 + (281 + 2)))))))) (sT4 w os).abs (restOf (q4 ++ (q5 ++ (q6 ++ (q7 ++ (q8 ++ (q9 ++ (q10 ++ (q11 ++ [])))))))) env0 cE ⟨203, 0, 203, 8⟩ [topFrame pos0]) = some (sT12 w os).abs := piece_app (sg4 w os) (ch5 w os)
theorem ch3 (w : World) (os : OsState) : topRun treeTable p0 w 11 (some (.ref 6)) (664 + (687 + (1065 + (497 + (478 + (588 + (621 + (760 + (281 + 2))))))))) (sT3 w os).abs (restOf (q3 ++ (q4 ++ (q5 ++ (q6 ++ (q7 ++ (q8 ++ (q9 ++ (q10 ++ (q11 ++ []))))))))) env0 cE ⟨194, 0, 194, 8⟩ [topFrame pos0]) = some (sT12 w os).abs := piece_app (sg3 w os) (ch4 w os)
theorem ch2 (w : World) (os : OsState) : topRun treeTable p0 w 11 (some (.ref 6)) (890 + (664 + (687 + (1065 + (497 + (478 + (588 + (621 + (760 + (281 + 2)))))))))) (sT2 w os).abs (restOf (q2 ++ (q3 ++ (q4 ++ (q5 ++ (q6 ++ (q7 ++ (q8 ++ (q9 ++ (q10 ++ (q11 ++ [])))))))))) env0 cE ⟨110, 0, 110, 10⟩ [topFrame pos0]) = some (sT12 w os).abs := piece_app (sg2 w os) (ch3 w os)
theorem ch1 (w : World) (os : OsState) : topRun treeTable p0 w 11 (some (.ref 6)) (702 + (890 + (664 + (687 + (1065 + (497 + (478 + (588 + (621 + (760 + (281 + 2))))))))))) (sT1 w os).abs (restOf (q1 ++ (q2 ++ (q3 ++ (q4 ++ (q5 ++ (q6 ++ (q7 ++ (q8 ++ (q9 ++ (q10 ++ (q11 ++ []))))))))))) env0 cE ⟨39, 0, 39, 8⟩ [topFrame pos0]) = some (sT12 w os).abs := piece_app (sg1 w os) (ch2 w os)
theorem ch0 (w : World) (os : OsState) : topRun treeTable p0 w 11 (some (.ref 6)) (443 + (702 + (890 + (664 + (687 + (1065 + (497 + (478 + (588 + (621 + (760 + (281 + 2)))))))))))) (sT0 w os).abs (restOf (q0 ++ (q1 ++ (q2 ++ (q3 ++ (q4 ++ (q5 ++ (q6 ++ (q7 ++ (q8 ++ (q9 ++ (q10 ++ (q11 ++ [])))))))))))) env0 cE ⟨0, 0, 0, 0⟩ [topFrame pos0]) = some (sT12 w os).abs := piece_app (sg0 w os) (ch1 w os)
end Mine
end PartHdE
section PartHdF
open PySem PySem.W PyProof.Rows
set_option Elab.async false
set_option maxRecDepth 100000
set_option maxHeartbeats 0
namespace Mine
noncomputable def K : Params → Frag := fun P => (nat_lit 2, v2x3 P) :: (nat_lit 3, v3x11 P) :: (nat_lit 34, o34 P) :: (nat_lit 35, o35 P) :: (nat_lit 36, o36 P) :: (nat_lit 42, o42 P) :: (nat_lit 43, o43 P) :: (nat_lit 49, o49 P) :: (nat_lit 50, o50 P) :: (nat_lit 56, o56 P) :: (nat_lit 57, o57 P) :: (nat_lit 63, o63 P) :: (nat_lit 64, o64 P) :: (nat_lit 73, o73 P) :: (nat_lit 74, o74 P) :: (nat_lit 91, o91 P) :: (nat_lit 92, o92 P) :: (nat_lit 157, o157 P) :: (nat_lit 158, o158 P) :: (nat_lit 168, o168 P) :: (nat_lit 169, o169 P) :: (nat_lit 175, o175 P) :: (nat_lit 176, o176 P) :: (nat_lit 182, o182 P) :: (nat_lit 183, o183 P) :: (nat_lit 189, o189 P) :: (nat_lit 190, o190 P) :: (nat_lit 210, o210 P) :: (nat_lit 211, o211 P) :: (nat_lit 245, o245 P) :: (nat_lit 246, o246 P) :: (nat_lit 259, o259 P) :: (nat_lit 260, o260 P) :: (nat_lit 269, o269 P) :: (nat_lit 270, o270 P) :: (nat_lit 287, o287 P) :: (nat_lit 288, o288 P) :: (nat_lit 308, o308 P) :: (nat_lit 309, o309 P) :: (nat_lit 315, o315 P) :: (nat_lit 316, o316 P) :: (nat_lit 322, o322 P) :: (nat_lit 323, o323 P) :: (nat_lit 325, o325 P) :: (nat_lit 326, o326 P) :: (nat_lit 387, o387 P) :: (nat_lit 388, o388 P) :: (nat_lit 425, o425 P) :: (nat_lit 426, o426 P) :: (nat_lit 443, o443 P) :: (nat_lit 444, o444 P) :: (nat_lit 460, o460 P) :: (nat_lit 461, o461 P) :: (nat_lit 478, o478 P) :: (nat_lit 479, o479 P) :: (nat_lit 651, o651 P) :: (nat_lit 652, o652 P) :: (nat_lit 662, o662 P) :: (nat_lit 663, o663 P) :: (nat_lit 671, o671 P) :: (nat_lit 677, o677 P) :: (nat_lit 678, o678 P) :: (nat_lit 701, o701 P) :: (nat_lit 702, o702 P) :: (nat_lit 712, o712 P) :: (nat_lit 713, o713 P) :: (nat_lit 719, o719 P) :: (nat_lit 720, o720 P) :: (nat_lit 728, o728 P) :: (nat_lit 732, o732 P) :: (nat_lit 733, o733 P) :: (nat_lit 739, o739 P) :: (nat_lit 740, o740 P) :: (nat_lit 746, o746 P) :: (nat_lit 747, o747 P) :: (nat_lit 753, o753 P) :: (nat_lit 754, o754 P) :: (nat_lit 760, o760 P) :: (nat_lit 761, o761 P) :: (nat_lit 782, o782 P) :: (nat_lit 783, o783 P) :: (nat_lit 800, o800 P) :: (nat_lit 801, o801 P) :: (nat_lit 803, o803 P) :: (nat_lit 804, o804 P) :: (nat_lit 814, o814 P) :: (nat_lit 815, o815 P) :: (nat_lit 828, o828 P) :: (nat_lit 829, o829 P) :: (nat_lit 835, o835 P) :: (nat_lit 836, o836 P) :: (nat_lit 837, o837 P) :: (nat_lit 843, o843 P) :: (nat_lit 844, o844 P) :: (nat_lit 846, o846 P) :: (nat_lit 847, o847 P) :: (nat_lit 864, o864 P) :: (nat_lit 865, o865 P) :: (nat_lit 883, o883 P) :: (nat_lit 884, o884 P) :: (nat_lit 890, o890 P) :: (nat_lit 891, o891 P) :: (nat_lit 897, o897 P) :: (nat_lit 898, o898 P) :: (nat_lit 904, o904 P) :: (nat_lit 905, o905 P) :: (nat_lit 911, o911 P) :: (nat_lit 912, o912 P) :: (nat_lit 918, o918 P) :: (nat_lit 919, o919 P) :: (nat_lit 925, o925 P) :: (nat_lit 926, o926 P) :: (nat_lit 942, o942 P) :: (nat_lit 943, o943 P) :: (nat_lit 955, o955 P) :: (nat_lit 961, o961 P) :: (nat_lit 962, o962 P) :: (nat_lit 968, o968 P) :: (nat_lit 969, o969 P) :: (nat_lit 975, o975 P) :: (nat_lit 976, o976 P) :: (nat_lit 982, o982 P) :: (nat_lit 983, o983 P) :: (nat_lit 989, o989 P) :: (nat_lit 990, o990 P) :: (nat_lit 996, o996 P) :: (nat_lit 997, o997 P) :: (nat_lit 1003, o1003 P) :: (nat_lit 1004, o1004 P) :: (nat_lit 1024, o1024 P) :: (nat_lit 1025, o1025 P) :: (nat_lit 1045, o1045 P) :: (nat_lit 1046, o1046 P) :: (nat_lit 1076, o1076 P) :: (nat_lit 1077, o1077 P) :: (nat_lit 1087, o1087 P) :: (nat_lit 1088, o1088 P) :: (nat_lit 1094, o1094 P) :: (nat_lit 1095, o1095 P) :: (nat_lit 1101, o1101 P) :: (nat_lit 1102, o1102 P) :: (nat_lit 1108, o1108 P) :: (nat_lit 1109, o1109 P) :: (nat_lit 1115, o1115 P) :: (nat_lit 1116, o1116 P) :: (nat_lit 1122, o1122 P) :: (nat_lit 1123, o1123 P) :: (nat_lit 1129, o1129 P) :: (nat_lit 1130, o1130 P) :: (nat_lit 1136, o1136 P) :: (nat_lit 1137, o1137 P) :: (nat_lit 1, boot_o_1 P) :: []
noncomputable def Kas : List Addr := nat_lit 2 :: nat_lit 3 :: nat_lit 34 :: nat_lit 35 :: nat_lit 36 :: nat_lit 42 :: nat_lit 43 :: nat_lit 49 :: nat_lit 50 :: nat_lit 56 :: nat_lit 57 :: nat_lit 63 :: nat_lit 64 :: nat_lit 73 :: nat_lit 74 :: nat_lit 91 :: nat_lit 92 :: nat_lit 157 :: nat_lit 158 :: nat_lit 168 :: nat_lit 169 :: nat_lit 175 :: nat_lit 176 :: nat_lit 182 :: nat_lit 183 :: nat_lit 189 :: nat_lit 190 :: nat_lit 210 :: nat_lit 211 :: nat_lit 245 :: nat_lit 246 :: nat_lit 259 :: nat_lit 260 :: nat_lit 269 :: nat_lit 270 :: nat_lit 287 :: nat_lit 288 :: nat_lit 308 :: nat_lit 309 :: nat_lit 315 :: nat_lit 316 :: nat_lit 322 :: nat_lit 323 :: nat_lit 325 :: nat_lit 326 :: nat_lit 387 :: nat_lit 388 :: nat_lit 425 :: nat_lit 426 :: nat_lit 443 :: nat_lit 444 :: nat_lit 460 :: nat_lit 461 :: nat_lit 478 :: nat_lit 479 :: nat_lit 651 :: nat_lit 652 :: nat_lit 662 :: nat_lit 663 :: nat_lit 671 :: nat_lit 677 :: nat_lit 678 :: nat_lit 701 :: nat_lit 702 :: nat_lit 712 :: nat_lit 713 :: nat_lit 719 :: nat_lit 720 :: nat_lit 728 :: nat_lit 732 :: nat_lit 733 :: nat_lit 739 :: nat_lit 740 :: nat_lit 746 :: nat_lit 747 :: nat_lit 753 :: nat_lit 754 :: nat_lit 760 :: nat_lit 761 :: nat_lit 782 :: nat_lit 783 :: nat_lit 800 :: nat_lit 801 :: nat_lit 803 :: nat_lit 804 :: nat_lit 814 :: nat_lit 815 :: nat_lit 828 :: nat_lit 829 :: nat_lit 835 :: nat_lit 836 :: nat_lit 837 :: nat_lit 843 :: nat_lit 844 :: nat_lit 846 :: nat_lit 847 :: nat_lit 864 :: nat_lit 865 :: nat_lit 883 :: nat_lit 884 :: nat_lit 890 :: nat_lit 891 :: nat_lit 897 :: nat_lit 898 :: nat_lit 904 :: nat_lit 905 :: nat_lit 911 :: nat_lit 912 :: nat_lit 918 :: nat_lit 919 :: nat_lit 925 :: nat_lit 926 :: nat_lit 942 :: nat_lit 943 :: nat_lit 955 :: nat_lit 961 :: nat_lit 962 :: nat_lit 968 :: nat_lit 969 :: nat_lit 975 :: nat_lit 976 :: nat_lit 982 :: nat_lit 983 :: nat_lit 989 :: nat_lit 990 :: nat_lit 996 :: nat_lit 997 :: nat_lit 1003 :: nat_lit 1004 :: nat_lit 1024 :: nat_lit 1025 :: nat_lit 1045 :: nat_lit 1046 :: nat_lit 1076 :: nat_lit 1077 :: nat_lit 1087 :: nat_lit 1088 :: nat_lit 1094 :: nat_lit 1095 :: nat_lit 1101 :: nat_lit 1102 :: nat_lit 1108 :: nat_lit 1109 :: nat_lit 1115 :: nat_lit 1116 :: nat_lit 1122 :: nat_lit 1123 :: nat_lit 1129 :: nat_lit 1130 :: nat_lit 1136 :: nat_lit 1137 :: nat_lit 1 :: []
noncomputable abbrev Xt0 : Shared → Bool := fun s => xlAt qv [] s && recOk PySem.Challenge.rw_on0348_01.row.toRowW.records s
theorem pre (w : World) (os : OsState) : topGo treeTable p0 w 11 (some (.ref 6)) 12 ⟨boot_heap w.params, #[], boot_drawn, boot_toks, os⟩ (topStub p0) = some (⟨heap0 w.params, #[], {}, 187, os⟩, ⟨denote treeTable cE, cE, pos0, [topFrame pos0]⟩) := by
  rw [Fast.te15667345088766844465, Fast.te14364793385576792824, Fast.te11892475500146522536]
  kernel_rfl
theorem block (w : World) (os : OsState) : segRun treeTable p0 w 11 (some (.ref 6)) 1 1 ⟨heap0 w.params, #[], {}, 187, os⟩ (blockOf (behindTheImports p0) env0 cE pos0 [topFrame pos0]) = some (.next, (sT0 w os).abs, cE, pos0) := by
  rw [Fast.te14374325043358763698, Fast.te14364793385576792824]
  kernel_rfl
theorem looks1 (w : World) (os : OsState) : (staticsOk (importedModules p0.main.body) (boot_heap w.params) (sT12 w os).abs.heap && namesBound p0 (sT12 w os).abs.heap && gensDone (sT12 w os).abs && laidKept (boot_heap w.params) (sT12 w os).abs.heap) = true := by
  kernel_rfl
theorem looks2 (w : World) (os : OsState) : openSeen qv loose (importedModules p0.main.body) Xt0 true (sT12 w os).abs = openGood qv loose := by
  rw [Fast.te4187177175401517315]
  kernel_rfl
theorem looks3 (w : World) (os : OsState) : Kas.map (sT12 w os).abs.heap.get? = (K w.params).map fun p => some p.2 := by
  kernel_rfl
end Mine
end PartHdF
section PartHdG
open PySem PySem.W PyProof.Rows
set_option Elab.async false
set_option maxRecDepth 100000
set_option maxHeartbeats 4000000
namespace Mine

theorem l1 (w : World) (os : OsState) : topRun treeTable p0 w 11 (some (.ref 6)) (443 + (702 + (890 + (664 + (687 + (1065 + (497 + (478 + (588 + (621 + (760 + (281 + 2)))))))))))) (sT0 w os).abs (restOf (behindTheImports p0) env0 cE pos0 [topFrame pos0]) = some (sT12 w os).abs := by
  rw [whole]
  exact ch0 w os
theorem l2 (w : World) (os : OsState) : topRun treeTable p0 w 11 (some (.ref 6)) (1 + (443 + (702 + (890 + (664 + (687 + (1065 + (497 + (478 + (588 + (621 + (760 + (281 + 2))))))))))))) ⟨heap0 w.params, #[], {}, 187, os⟩ ⟨denote treeTable cE, cE, pos0, [topFrame pos0]⟩ = some (sT12 w os).abs :=
  piece_block (b := behindTheImports p0) (env := env0) (block w os) (l1 w os)
theorem l3 (w : World) (os : OsState) : topRun treeTable p0 w 11 (some (.ref 6)) (12 + (1 + (443 + (702 + (890 + (664 + (687 + (1065 + (497 + (478 + (588 + (621 + (760 + (281 + 2)))))))))))))) ⟨boot_heap w.params, #[], boot_drawn, boot_toks, os⟩ (topStub p0) = some (sT12 w os).abs :=
  go_top (pre w os) (l2 w os)
theorem num : 12 + (1 + (443 + (702 + (890 + (664 + (687 + (1065 + (497 + (478 + (588 + (621 + (760 + (281 + 2))))))))))))) + 2309 = 10000 := by decide
theorem l4 (w : World) (os : OsState) : topRun treeTable p0 w 11 (some (.ref 6)) 10000 ⟨boot_heap w.params, #[], boot_drawn, boot_toks, os⟩ (topStub p0) = some (sT12 w os).abs := by
  have r := topRun_mono 2309 _ _ _ _ (l3 w os)
  rw [num] at r
  exact r
theorem z1 (w : World) : ((boot_heap w.params).isNs mainGlobals && (#[] : Array GenState).size == 0) = true := by kernel_rfl
theorem z2 (w : World) : (boot_heap w.params).objs.size = 11 := rfl
theorem z3 (w : World) : (boot_heap w.params).nsMap mainGlobals "__annotations__" = some (.ref 6) := by kernel_rfl
theorem topFrom_of {p : Program} {w : World} {N m : Nat} {ann : Option Value} {s₀ s₁ : Shared} (a : (s₀.heap.isNs mainGlobals && s₀.gens.size == 0) = true) (b : s₀.heap.objs.size = m) (c : s₀.heap.nsMap mainGlobals "__annotations__" = ann)
    (r : topRun treeTable p w m ann N s₀ (topStub p) = some s₁) (l : (staticsOk (importedModules p.main.body) s₀.heap s₁.heap && namesBound p s₁.heap && gensDone s₁ && laidKept s₀.heap s₁.heap) = true) : topFrom treeTable p w N s₀ = some s₁ := by
  unfold topFrom
  subst b c
  rw [a, r]
  show (match staticsOk (importedModules p.main.body) s₀.heap s₁.heap && namesBound p s₁.heap && gensDone s₁ && laidKept s₀.heap s₁.heap with | true => some s₁ | false => none) = _
  rw [l]
theorem l5 (w : World) (os : OsState) : topFrom treeTable p0 w 10000 ⟨boot_heap w.params, #[], boot_drawn, boot_toks, os⟩ = some (sT12 w os).abs :=
  topFrom_of (z1 w) (z2 w) (z3 w) (l4 w os) (looks1 w os)
theorem left_of {p q : Program} {loose : List PySem.Str} {Xt : Shared → Bool} {α : Type} {Yf : Shared → α} {Ya : World → α} {N : Nat} {w : World} {H : Heap} {gs : Array GenState} {d : Drawn} {k : Nat} {F : OsState → Shared}
    (o : (fencedOpening treeTable p w N).map (fun s => (s.heap, s.gens, s.drawn, s.toks)) = some (H, gs, d, k)) (t : ∀ os, topFrom treeTable p w N ⟨H, gs, d, k, os⟩ = some (F os))
    (l2 : ∀ os, openSeen q loose (importedModules p.main.body) Xt true (F os) = openGood q loose) (l3 : ∀ os, Yf (F os) = Ya w) :
    Option.map (fun s => (openSeen q loose (importedModules p.main.body) Xt true s, Yf s)) (openEnds treeTable p w N) = some (openGood q loose, Ya w) := by
  obtain ⟨⟨h, gs', d', k', os⟩, e, e'⟩ := Option.map_eq_some_iff.mp o
  obtain ⟨rfl, rfl, rfl, rfl⟩ : h = H ∧ gs' = gs ∧ d' = d ∧ k' = k := by simpa using e'
  unfold openEnds
  rw [e]
  show (topFrom treeTable p w N _).map _ = _
  rw [t]
  exact congrArg some (Prod.ext (l2 os) (l3 os))
theorem isOpen (w : World) : (fencedOpening treeTable p0 w 10000).map (fun s => (s.heap, s.gens, s.drawn, s.toks)) = some (boot_heap w.params, Array.mk [], boot_drawn, boot_toks) :=
  boot_open (p := p0) (N := 10000) rfl (by decide) (fun _ => rfl) w
theorem left : LeftO p0 qv loose Xt0 (fun s => Kas.map s.heap.get?) (fun w => (K w.params).map fun p => some p.2) 10000 true := fun w =>
  left_of (Yf := fun s => Kas.map s.heap.get?) (Ya := fun w => (K w.params).map fun p => some p.2) (isOpen w) (l5 w) (looks2 w) (looks3 w)
end Mine
end PartHdG
section PartHdW1
open PySem PySem.W PyProof.Rows
set_option Elab.async false
set_option maxRecDepth 100000
set_option maxHeartbeats 4000000
namespace Mine
theorem lo_sre : sreFenced p0.main = true := by
  rw [Fast.te11788848310118352699]
  kernel_rfl
theorem lo_mods : ((moduleNames p0.main.body).isEmpty || lookedIntoSs (moduleNames p0.main.body) p0.main.body) = true := by
  rw [Fast.te9807087744658564304]
  kernel_rfl
theorem lo_resolve : namesResolve p0 = true := by
  rw [Fast.te8377067652309620493]
  kernel_rfl
theorem lo_bound : p0.boundNames.all (fun n => !worldNames.contains n) = true := by
  rw [Fast.te18344453789297297638, Fast.te14412699480532031325]
  kernel_rfl
theorem lo_road : noRoadLSs { strict := !(importedModules p0.main.body).all cThrough.contains, foot := none, bare := (["vars", "dir", "locals"] : List PySem.Str).filter (readsOut p0 p0.main.body) } p0.main.body = true := by
  rw [Fast.te8326940854005059898, Fast.te13343964577679436407]
  kernel_rfl
theorem lo_meet : namesMeet p0 p0.main.body (fun _ n => attrL n) = true := by
  rw [Fast.te17119622794617984870, Fast.te17868728402115742887]
  kernel_rfl
theorem lo : looksOpen p0 = true := by
  unfold looksOpen
  exact look_both (look_both (look_both (look_both (look_both lo_sre lo_mods) lo_resolve) lo_bound) lo_road) lo_meet
end Mine
end PartHdW1
section PartHdW2
open PySem PySem.W PyProof.Rows
set_option Elab.async false
set_option maxRecDepth 100000
set_option maxHeartbeats 400000
namespace Mine
theorem lo' : looksOpen PySem.Challenge.rw_on0348_01.row.toRowW.prog = true := lo
theorem part_of {r : OpenRow} (h : looksOpen r.prog = true) (h2 : (r.loose.isEmpty && r.makers.isEmpty && r.records.isEmpty && r.raises.isEmpty && r.mutates.isEmpty && r.within.isEmpty && r.same.isNone && r.toRowW.solid && r.pre.litsOk && r.post.litsOk) = true) : r.partSaid = true := by
  unfold OpenRow.partSaid
  simp only [Bool.and_eq_true, List.isEmpty_iff, Option.isNone_iff_eq_none] at h2
  obtain ⟨⟨⟨⟨⟨⟨⟨⟨⟨a, b⟩, c⟩, d⟩, e⟩, f⟩, g⟩, i⟩, j⟩, k⟩ := h2
  rw [h, a, b, c, d, e, f, g, i, j, k]
  simp
theorem lo_part : PySem.Challenge.rw_on0348_01.row.partSaid = true := part_of lo' (by kernel_rfl)
theorem row_of {r : OpenRow} (h : r.partSaid = true) (h2 : r.prog.boundNames.contains r.name = true) (h3 : startupNames.contains r.name = false) : r.wellSaid = true := by
  unfold OpenRow.wellSaid
  rw [h, h2, h3]
  rfl
theorem rn1 : p0.boundNames.contains (.ofString "law") = true := by kernel_rfl
theorem rn2 : startupNames.contains (.ofString "law") = false := by kernel_rfl
theorem lo_row : PySem.Challenge.rw_on0348_01.row.wellSaid = true := row_of lo_part rn1 rn2
end Mine
end PartHdW2
section PartHdW3
open PySem PySem.W PyProof.Rows
set_option Elab.async false
set_option maxRecDepth 100000
set_option maxHeartbeats 400000
namespace Mine
noncomputable abbrev lw : OpenLaw := PySem.Challenge.rw_on0348_01
theorem law_of {l : OpenLaw} (c0 : l.row.wellSaid = true) (c1 : decide (l.foot ≤ (behindTheImports l.prog).length) = true) (c2 : l.footing.all footLine = true) (c3 : noClassBlock l.prog l.footing = true)
    (c4 : l.most.all (fun n => decide (63 ≤ n)) = true) (c5 : l.bound.all (fun n => decide (2 ^ 63 ≤ n)) = true)
    (c6 : noRoadLSs { strict := true, foot := some l.bound', writes := l.writes, may := l.may } l.footing = true)
    (c7 : defStands l.about l.above = true) (c8 : l.namesIt = true)
    (c9 : (["type", "isinstance", "issubclass", "getattr", "hasattr"] : List PySem.Str).all (fun n => l.about != [n]) = true)
    (c10 : l.bound'.all (fun n => !builtinNamed n || l.about == [n] || !l.reads n) = true)
    (c11 : (!l.writes || (l.prog.main.body.flatMap importedNames).all fun n => !l.reads n) = true)
    (c12 : ((l.prog.main.body.flatMap importedNames).all fun n => !l.reads n || (drawsOf n l.prog.main.body).all fun mn => mn.2 != ("attrgetter" : PySem.Str) && mn.2 != ("methodcaller" : PySem.Str)) = true)
    (c13 : namesMeet l.prog l.footing (fun sc n => (!(["type", "isinstance", "issubclass", "getattr", "hasattr"] : List PySem.Str).contains n || sc.names.lookup n == some .globalImplicit) &&
      (l.may != some n || sc.kind == .module || sc.names.lookup n == some .globalImplicit)) = true)
    (c14 : l.own.contains l.name = true) (c15 : (l.own.eraseDups.length == l.own.length) = true) (c16 : l.own.all (fun n => !builtinNamed n) = true)
    (c17 : namesMeet l.prog l.above (fun _ n => !l.own.contains n) = true) (c18 : namesMeet l.prog l.footing (fun sc n => sc.kind == .module || sc.names.lookup n != some .globalExplicit) = true) : l.wellSaid = true := by
  unfold OpenLaw.wellSaid
  simp only [c0, c1, c2, c3, c4, c5, c6, c7, c8, c9, c10, c11, c12, c13, c14, c15, c16, c17, c18, Bool.and_self]
theorem w1 : decide (lw.foot ≤ (behindTheImports lw.prog).length) = true := by kernel_rfl
theorem w2 : lw.footing.all footLine = true := by rw [Fast.te10501279942588096481]; kernel_rfl
theorem w3 : noClassBlock lw.prog lw.footing = true := by rw [Fast.te8179353310426384613]; kernel_rfl
theorem w4 : lw.most.all (fun n => decide (63 ≤ n)) = true := by kernel_rfl
theorem w5 : lw.bound.all (fun n => decide (2 ^ 63 ≤ n)) = true := by kernel_rfl
theorem w6 : noRoadLSs { strict := true, foot := some lw.bound', writes := lw.writes, may := lw.may } lw.footing = true := by
  rw [Fast.te8326940854005059898, Fast.te797321630700447069, Fast.te9572597257264208301]; kernel_rfl
theorem w7 : defStands lw.about lw.above = true := by rw [Fast.te9558739934217749035]; kernel_rfl
theorem w8 : lw.namesIt = true := by rw [Fast.te16286561074155671207]; kernel_rfl
theorem w9 : (["type", "isinstance", "issubclass", "getattr", "hasattr"] : List PySem.Str).all (fun n => lw.about != [n]) = true := by kernel_rfl
theorem w10 : lw.bound'.all (fun n => !builtinNamed n || lw.about == [n] || !lw.reads n) = true := by
  rw [Fast.te797321630700447069, Fast.named_eq, Fast.te6984425678791042302]; kernel_rfl
theorem w11 : (!lw.writes || (lw.prog.main.body.flatMap importedNames).all fun n => !lw.reads n) = true := by kernel_rfl
theorem w12 : ((lw.prog.main.body.flatMap importedNames).all fun n => !lw.reads n || (drawsOf n lw.prog.main.body).all fun mn => mn.2 != ("attrgetter" : PySem.Str) && mn.2 != ("methodcaller" : PySem.Str)) = true := by
  rw [Fast.te12879404354523853263]; kernel_rfl
theorem w13 : namesMeet lw.prog lw.footing (fun sc n => (!(["type", "isinstance", "issubclass", "getattr", "hasattr"] : List PySem.Str).contains n || sc.names.lookup n == some .globalImplicit) &&
      (lw.may != some n || sc.kind == .module || sc.names.lookup n == some .globalImplicit)) = true := by
  rw [Fast.te17119622794617984870, Fast.te9572597257264208301]; kernel_rfl
theorem w14 : lw.own.contains lw.name = true := by rw [Fast.te10792542408131684335]; kernel_rfl
theorem w15 : (lw.own.eraseDups.length == lw.own.length) = true := by rw [Fast.te10792542408131684335]; kernel_rfl
theorem w16 : lw.own.all (fun n => !builtinNamed n) = true := by rw [Fast.te10792542408131684335, Fast.named_eq]; kernel_rfl
theorem w17 : namesMeet lw.prog lw.above (fun _ n => !lw.own.contains n) = true := by rw [Fast.te17119622794617984870, Fast.te10792542408131684335]; kernel_rfl
theorem w18 : namesMeet lw.prog lw.footing (fun sc n => sc.kind == .module || sc.names.lookup n != some .globalExplicit) = true := by rw [Fast.te17119622794617984870]; kernel_rfl
theorem said : lw.wellSaid = true := law_of lo_row w1 w2 w3 w4 w5 w6 w7 w8 w9 w10 w11 w12 w13 w14 w15 w16 w17 w18
end Mine
end PartHdW3
section PartHdX
open PySem PySem.W PyProof.Rows
set_option Elab.async false
set_option maxRecDepth 100000
set_option maxHeartbeats 400000
namespace Mine
theorem Kok : ∀ P, Kas = (K P).map (·.1) := fun _ => by kernel_rfl
noncomputable def dkP : {x : DefRec × List (PySem.Str × PySem.Expr) // defOf qv (.ofString "law") = some x} := ⟨_, rfl⟩
theorem theLaw : PySem.Challenge.rw_on0348_01.row.prog.theDef PySem.Challenge.rw_on0348_01.row.name = some (dkP.1.1.params, dkP.1.1.body, dkP.1.1.scope) := by
  rw [Fast.te10235530238920679567]
  kernel_rfl
theorem ok3 : (chainsOk qv && opensWell PySem.Challenge.rw_on0348_01.row.prog && (frees PySem.Challenge.rw_on0348_01.row.toRowW && PySem.Challenge.rw_on0348_01.row.within.isEmpty)) = true := by kernel_rfl
theorem tabs0 : PySem.Challenge.rw_on0348_01.row.prog.tablesWhole = true := by
  unfold Program.tablesWhole TablesWhole.wProgram
  rw [Fast.te6116379765354995101]
  kernel_rfl
theorem bare0 : PySem.Challenge.rw_on0348_01.row.prog.bare := ⟨rfl, rfl, rfl, rfl, rfl, tabs0⟩
theorem prom : PySem.Challenge.rw_on0348_01.row.toRowW.promised := ⟨[.list []], by decide +kernel, by decide +kernel⟩
theorem hd (walk : WalkO qv loose (XL qv []) (kHook K Kas Kok).says PySem.Challenge.rw_on0348_01.row.toRowW dkP.1.1 dkP.1.2 fun f vs => PySem.call f vs) : PySem.Challenge.rw_on0348_01.Holds :=
  holds_law said fun said' =>
  holds_open (q := qv) (loose := loose) (Xt := Xt0) (XP := XL qv []) (Yf := (kHook K Kas Kok).obs) (Ya := (kHook K Kas Kok).val) (YP := (kHook K Kas Kok).says) (N := 10000) left (kHook K Kas Kok).of (kHook K Kas Kok).keeps (fun s e => xl_of s (Bool.and_eq_true_iff.mp e).1) XL.keeps dkP.2 theLaw rfl (fun s e => recFacts_of (Bool.and_eq_true_iff.mp e).2) rfl said' ok3 bare0 prom walk
end Mine
end PartHdX
section PartEp
open PySem PySem.W PySem.Calls PyProof.Rows
set_option Elab.async false
set_option maxRecDepth 100000
set_option maxHeartbeats 400000
namespace Mine
/-- a proof for one chosen thing (which would break the claim, if any did) is a proof for all: so the proof's variables become closed terms, which stand but once in the compiled file -/
@[irreducible] noncomputable def zz {A : Type} (ne : Nonempty A) [I : Inhabited (A → Prop)] : A := Classical.epsilon fun x => ¬ I.default x
theorem zz_all {A : Type} (ne : Nonempty A) (p : A → Prop) (h : p (zz ne (I := ⟨p⟩))) (x : A) : p x := by
  refine Classical.byContradiction fun hn => ?_
  have q := Classical.epsilon_spec (p := fun x : A => ¬ p x) ⟨x, hn⟩
  refine q ?_
  unfold zz at h
  exact h
theorem dum {p : Prop} (h : Unit → p) : p := h ()
theorem neW : Nonempty World := ⟨⟨fun _ _ => 0, { strHash := fun _ => 0, shareClass := fun _ => 0, mergeTok := id, idOf := fun _ => 0, idOfShared := fun _ _ => 0, followText := fun _ => false, idOfImm := fun _ => 0 }⟩⟩
theorem neS : Nonempty Shared := ⟨{}⟩
def un6 {A0 A1 A2 A3 A4 A5 : Type} (P : A0 → A1 → A2 → A3 → A4 → A5 → Prop) : A0 × A1 × A2 × A3 × A4 × A5 → Prop := fun x => P x.1 x.2.1 x.2.2.1 x.2.2.2.1 x.2.2.2.2.1 x.2.2.2.2.2
theorem eps6 {A0 A1 A2 A3 A4 A5 : Type} (ne : Nonempty (A0 × A1 × A2 × A3 × A4 × A5)) {P : A0 → A1 → A2 → A3 → A4 → A5 → Prop} (h : P (zz ne (I := ⟨un6 P⟩)).1 (zz ne (I := ⟨un6 P⟩)).2.1 (zz ne (I := ⟨un6 P⟩)).2.2.1 (zz ne (I := ⟨un6 P⟩)).2.2.2.1 (zz ne (I := ⟨un6 P⟩)).2.2.2.2.1 (zz ne (I := ⟨un6 P⟩)).2.2.2.2.2) : ∀ x0 x1 x2 x3 x4 x5, P x0 x1 x2 x3 x4 x5 :=
  fun x0 x1 x2 x3 x4 x5 => zz_all ne (un6 P) h (x0, x1, x2, x3, x4, x5)
def un9 {A0 A1 A2 A3 A4 A5 A6 A7 A8 : Type} (P : A0 → A1 → A2 → A3 → A4 → A5 → A6 → A7 → A8 → Prop) : A0 × A1 × A2 × A3 × A4 × A5 × A6 × A7 × A8 → Prop := fun x => P x.1 x.2.1 x.2.2.1 x.2.2.2.1 x.2.2.2.2.1 x.2.2.2.2.2.1 x.2.2.2.2.2.2.1 x.2.2.2.2.2.2.2.1 x.2.2.2.2.2.2.2.2
theorem eps9 {A0 A1 A2 A3 A4 A5 A6 A7 A8 : Type} (ne : Nonempty (A0 × A1 × A2 × A3 × A4 × A5 × A6 × A7 × A8)) {P : A0 → A1 → A2 → A3 → A4 → A5 → A6 → A7 → A8 → Prop} (h : P (zz ne (I := ⟨un9 P⟩)).1 (zz ne (I := ⟨un9 P⟩)).2.1 (zz ne (I := ⟨un9 P⟩)).2.2.1 (zz ne (I := ⟨un9 P⟩)).2.2.2.1 (zz ne (I := ⟨un9 P⟩)).2.2.2.2.1 (zz ne (I := ⟨un9 P⟩)).2.2.2.2.2.1 (zz ne (I := ⟨un9 P⟩)).2.2.2.2.2.2.1 (zz ne (I := ⟨un9 P⟩)).2.2.2.2.2.2.2.1 (zz ne (I := ⟨un9 P⟩)).2.2.2.2.2.2.2.2) : ∀ x0 x1 x2 x3 x4 x5 x6 x7 x8, P x0 x1 x2 x3 x4 x5 x6 x7 x8 :=
  fun x0 x1 x2 x3 x4 x5 x6 x7 x8 => zz_all ne (un9 P) h (x0, x1, x2, x3, x4, x5, x6, x7, x8)
def un12 {A0 A1 A2 A3 A4 A5 A6 A7 A8 A9 A10 A11 : Type} (P : A0 → A1 → A2 → A3 → A4 → A5 → A6 → A7 → A8 → A9 → A10 → A11 → Prop) : A0 × A1 × A2 × A3 × A4 × A5 × A6 × A7 × A8 × A9 × A10 × A11 → Prop := fun x => P x.1 x.2.1 x.2.2.1 x.2.2.2.1 x.2.2.2.2.1 x.2.2.2.2.2.1 x.2.2.2.2.2.2.1 x.2.2.2.2.2.2.2.1 x.2.2.2.2.2.2.2.2.1 x.2.2.2.2.2.2.2.2.2.1 x.2.2.2.2.2.2.2.2.2.2.1 x.2.2.2.2.2.2.2.2.2.2.2
theorem eps12 {A0 A1 A2 A3 A4 A5 A6 A7 A8 A9 A10 A11 : Type} (ne : Nonempty (A0 × A1 × A2 × A3 × A4 × A5 × A6 × A7 × A8 × A9 × A10 × A11)) {P : A0 → A1 → A2 → A3 → A4 → A5 → A6 → A7 → A8 → A9 → A10 → A11 → Prop} (h : P (zz ne (I := ⟨un12 P⟩)).1 (zz ne (I := ⟨un12 P⟩)).2.1 (zz ne (I := ⟨un12 P⟩)).2.2.1 (zz ne (I := ⟨un12 P⟩)).2.2.2.1 (zz ne (I := ⟨un12 P⟩)).2.2.2.2.1 (zz ne (I := ⟨un12 P⟩)).2.2.2.2.2.1 (zz ne (I := ⟨un12 P⟩)).2.2.2.2.2.2.1 (zz ne (I := ⟨un12 P⟩)).2.2.2.2.2.2.2.1 (zz ne (I := ⟨un12 P⟩)).2.2.2.2.2.2.2.2.1 (zz ne (I := ⟨un12 P⟩)).2.2.2.2.2.2.2.2.2.1 (zz ne (I := ⟨un12 P⟩)).2.2.2.2.2.2.2.2.2.2.1 (zz ne (I := ⟨un12 P⟩)).2.2.2.2.2.2.2.2.2.2.2) : ∀ x0 x1 x2 x3 x4 x5 x6 x7 x8 x9 x10 x11, P x0 x1 x2 x3 x4 x5 x6 x7 x8 x9 x10 x11 :=
  fun x0 x1 x2 x3 x4 x5 x6 x7 x8 x9 x10 x11 => zz_all ne (un12 P) h (x0, x1, x2, x3, x4, x5, x6, x7, x8, x9, x10, x11)
def un19 {A0 A1 A2 A3 A4 A5 A6 A7 A8 A9 A10 A11 A12 A13 A14 A15 A16 A17 A18 : Type} (P : A0 → A1 → A2 → A3 → A4 → A5 → A6 → A7 → A8 → A9 → A10 → A11 → A12 → A13 → A14 → A15 → A16 → A17 → A18 → Prop) : A0 × A1 × A2 × A3 × A4 × A5 × A6 × A7 × A8 × A9 × A10 × A11 × A12 × A13 × A14 × A15 × A16 × A17 × A18 → Prop := fun x => P x.1 x.2.1 x.2.2.1 x.2.2.2.1 x.2.2.2.2.1 x.2.2.2.2.2.1 x.2.2.2.2.2.2.1 x.2.2.2.2.2.2.2.1 x.2.2.2.2.2.2.2.2.1 x.2.2.2.2.2.2.2.2.2.1 x.2.2.2.2.2.2.2.2.2.2.1 x.2.2.2.2.2.2.2.2.2.2.2.1 x.2.2.2.2.2.2.2.2.2.2.2.2.1 x.2.2.2.2.2.2.2.2.2.2.2.2.2.1 x.2.2.2.2.2.2.2.2.2.2.2.2.2.2.1 x.2.2.2.2.2.2.2.2.2.2.2.2.2.2.2.1 x.2.2.2.2.2.2.2.2.2.2.2.2.2.2.2.2.1 x.2.2.2.2.2.2.2.2.2.2.2.2.2.2.2.2.2.1 x.2.2.2.2.2.2.2.2.2.2.2.2.2.2.2.2.2.2
theorem eps19 {A0 A1 A2 A3 A4 A5 A6 A7 A8 A9 A10 A11 A12 A13 A14 A15 A16 A17 A18 : Type} (ne : Nonempty (A0 × A1 × A2 × A3 × A4 × A5 × A6 × A7 × A8 × A9 × A10 × A11 × A12 × A13 × A14 × A15 × A16 × A17 × A18)) {P : A0 → A1 → A2 → A3 → A4 → A5 → A6 → A7 → A8 → A9 → A10 → A11 → A12 → A13 → A14 → A15 → A16 → A17 → A18 → Prop} (h : P (zz ne (I := ⟨un19 P⟩)).1 (zz ne (I := ⟨un19 P⟩)).2.1 (zz ne (I := ⟨un19 P⟩)).2.2.1 (zz ne (I := ⟨un19 P⟩)).2.2.2.1 (zz ne (I := ⟨un19 P⟩)).2.2.2.2.1 (zz ne (I := ⟨un19 P⟩)).2.2.2.2.2.1 (zz ne (I := ⟨un19 P⟩)).2.2.2.2.2.2.1 (zz ne (I := ⟨un19 P⟩)).2.2.2.2.2.2.2.1 (zz ne (I := ⟨un19 P⟩)).2.2.2.2.2.2.2.2.1 (zz ne (I := ⟨un19 P⟩)).2.2.2.2.2.2.2.2.2.1 (zz ne (I := ⟨un19 P⟩)).2.2.2.2.2.2.2.2.2.2.1 (zz ne (I := ⟨un19 P⟩)).2.2.2.2.2.2.2.2.2.2.2.1 (zz ne (I := ⟨un19 P⟩)).2.2.2.2.2.2.2.2.2.2.2.2.1 (zz ne (I := ⟨un19 P⟩)).2.2.2.2.2.2.2.2.2.2.2.2.2.1 (zz ne (I := ⟨un19 P⟩)).2.2.2.2.2.2.2.2.2.2.2.2.2.2.1 (zz ne (I := ⟨un19 P⟩)).2.2.2.2.2.2.2.2.2.2.2.2.2.2.2.1 (zz ne (I := ⟨un19 P⟩)).2.2.2.2.2.2.2.2.2.2.2.2.2.2.2.2.1 (zz ne (I := ⟨un19 P⟩)).2.2.2.2.2.2.2.2.2.2.2.2.2.2.2.2.2.1 (zz ne (I := ⟨un19 P⟩)).2.2.2.2.2.2.2.2.2.2.2.2.2.2.2.2.2.2) : ∀ x0 x1 x2 x3 x4 x5 x6 x7 x8 x9 x10 x11 x12 x13 x14 x15 x16 x17 x18, P x0 x1 x2 x3 x4 x5 x6 x7 x8 x9 x10 x11 x12 x13 x14 x15 x16 x17 x18 :=
  fun x0 x1 x2 x3 x4 x5 x6 x7 x8 x9 x10 x11 x12 x13 x14 x15 x16 x17 x18 => zz_all ne (un19 P) h (x0, x1, x2, x3, x4, x5, x6, x7, x8, x9, x10, x11, x12, x13, x14, x15, x16, x17, x18)
def un24 {A0 A1 A2 A3 A4 A5 A6 A7 A8 A9 A10 A11 A12 A13 A14 A15 A16 A17 A18 A19 A20 A21 A22 A23 : Type} (P : A0 → A1 → A2 → A3 → A4 → A5 → A6 → A7 → A8 → A9 → A10 → A11 → A12 → A13 → A14 → A15 → A16 → A17 → A18 → A19 → A20 → A21 → A22 → A23 → Prop) : A0 × A1 × A2 × A3 × A4 × A5 × A6 × A7 × A8 × A9 × A10 × A11 × A12 × A13 × A14 × A15 × A16 × A17 × A18 × A19 × A20 × A21 × A22 × A23 → Prop := fun x => P x.1 x.2.1 x.2.2.1 x.2.2.2.1 x.2.2.2.2.1 x.2.2.2.2.2.1 x.2.2.2.2.2.2.1 x.2.2.2.2.2.2.2.1 x.2.2.2.2.2.2.2.2.1 x.2.2.2.2.2.2.2.2.2.1 x.2.2.2.2.2.2.2.2.2.2.1 x.2.2.2.2.2.2.2.2.2.2.2.1 x.2.2.2.2.2.2.2.2.2.2.2.2.1 x.2.2.2.2.2.2.2.2.2.2.2.2.2.1 x.2.2.2.2.2.2.2.2.2.2.2.2.2.2.1 x.2.2.2.2.2.2.2.2.2.2.2.2.2.2.2.1 x.2.2.2.2.2.2.2.2.2.2.2.2.2.2.2.2.1 x.2.2.2.2.2.2.2.2.2.2.2.2.2.2.2.2.2.1 x.2.2.2.2.2.2.2.2.2.2.2.2.2.2.2.2.2.2.1 x.2.2.2.2.2.2.2.2.2.2.2.2.2.2.2.2.2.2.2.1 x.2.2.2.2.2.2.2.2.2.2.2.2.2.2.2.2.2.2.2.2.1 x.2.2.2.2.2.2.2.2.2.2.2.2.2.2.2.2.2.2.2.2.2.1 x.2.2.2.2.2.2.2.2.2.2.2.2.2.2.2.2.2.2.2.2.2.2.1 x.2.2.2.2.2.2.2.2.2.2.2.2.2.2.2.2.2.2.2.2.2.2.2
theorem eps24 {A0 A1 A2 A3 A4 A5 A6 A7 A8 A9 A10 A11 A12 A13 A14 A15 A16 A17 A18 A19 A20 A21 A22 A23 : Type} (ne : Nonempty (A0 × A1 × A2 × A3 × A4 × A5 × A6 × A7 × A8 × A9 × A10 × A11 × A12 × A13 × A14 × A15 × A16 × A17 × A18 × A19 × A20 × A21 × A22 × A23)) {P : A0 → A1 → A2 → A3 → A4 → A5 → A6 → A7 → A8 → A9 → A10 → A11 → A12 → A13 → A14 → A15 → A16 → A17 → A18 → A19 → A20 → A21 → A22 → A23 → Prop} (h : P (zz ne (I := ⟨un24 P⟩)).1 (zz ne (I := ⟨un24 P⟩)).2.1 (zz ne (I := ⟨un24 P⟩)).2.2.1 (zz ne (I := ⟨un24 P⟩)).2.2.2.1 (zz ne (I := ⟨un24 P⟩)).2.2.2.2.1 (zz ne (I := ⟨un24 P⟩)).2.2.2.2.2.1 (zz ne (I := ⟨un24 P⟩)).2.2.2.2.2.2.1 (zz ne (I := ⟨un24 P⟩)).2.2.2.2.2.2.2.1 (zz ne (I := ⟨un24 P⟩)).2.2.2.2.2.2.2.2.1 (zz ne (I := ⟨un24 P⟩)).2.2.2.2.2.2.2.2.2.1 (zz ne (I := ⟨un24 P⟩)).2.2.2.2.2.2.2.2.2.2.1 (zz ne (I := ⟨un24 P⟩)).2.2.2.2.2.2.2.2.2.2.2.1 (zz ne (I := ⟨un24 P⟩)).2.2.2.2.2.2.2.2.2.2.2.2.1 (zz ne (I := ⟨un24 P⟩)).2.2.2.2.2.2.2.2.2.2.2.2.2.1 (zz ne (I := ⟨un24 P⟩)).2.2.2.2.2.2.2.2.2.2.2.2.2.2.1 (zz ne (I := ⟨un24 P⟩)).2.2.2.2.2.2.2.2.2.2.2.2.2.2.2.1 (zz ne (I := ⟨un24 P⟩)).2.2.2.2.2.2.2.2.2.2.2.2.2.2.2.2.1 (zz ne (I := ⟨un24 P⟩)).2.2.2.2.2.2.2.2.2.2.2.2.2.2.2.2.2.1 (zz ne (I := ⟨un24 P⟩)).2.2.2.2.2.2.2.2.2.2.2.2.2.2.2.2.2.2.1 (zz ne (I := ⟨un24 P⟩)).2.2.2.2.2.2.2.2.2.2.2.2.2.2.2.2.2.2.2.1 (zz ne (I := ⟨un24 P⟩)).2.2.2.2.2.2.2.2.2.2.2.2.2.2.2.2.2.2.2.2.1 (zz ne (I := ⟨un24 P⟩)).2.2.2.2.2.2.2.2.2.2.2.2.2.2.2.2.2.2.2.2.2.1 (zz ne (I := ⟨un24 P⟩)).2.2.2.2.2.2.2.2.2.2.2.2.2.2.2.2.2.2.2.2.2.2.1 (zz ne (I := ⟨un24 P⟩)).2.2.2.2.2.2.2.2.2.2.2.2.2.2.2.2.2.2.2.2.2.2.2) : ∀ x0 x1 x2 x3 x4 x5 x6 x7 x8 x9 x10 x11 x12 x13 x14 x15 x16 x17 x18 x19 x20 x21 x22 x23, P x0 x1 x2 x3 x4 x5 x6 x7 x8 x9 x10 x11 x12 x13 x14 x15 x16 x17 x18 x19 x20 x21 x22 x23 :=
  fun x0 x1 x2 x3 x4 x5 x6 x7 x8 x9 x10 x11 x12 x13 x14 x15 x16 x17 x18 x19 x20 x21 x22 x23 => zz_all ne (un24 P) h (x0, x1, x2, x3, x4, x5, x6, x7, x8, x9, x10, x11, x12, x13, x14, x15, x16, x17, x18, x19, x20, x21, x22, x23)
def un28 {A0 A1 A2 A3 A4 A5 A6 A7 A8 A9 A10 A11 A12 A13 A14 A15 A16 A17 A18 A19 A20 A21 A22 A23 A24 A25 A26 A27 : Type} (P : A0 → A1 → A2 → A3 → A4 → A5 → A6 → A7 → A8 → A9 → A10 → A11 → A12 → A13 → A14 → A15 → A16 → A17 → A18 → A19 → A20 → A21 → A22 → A23 → A24 → A25 → A26 → A27 → Prop) : A0 × A1 × A2 × A3 × A4 × A5 × A6 × A7 × A8 × A9 × A10 × A11 × A12 × A13 × A14 × A15 × A16 × A17 × A18 × A19 × A20 × A21 × A22 × A23 × A24 × A25 × A26 × A27 → Prop := fun x => P x.1 x.2.1 x.2.2.1 x.2.2.2.1 x.2.2.2.2.1 x.2.2.2.2.2.1 x.2.2.2.2.2.2.1 x.2.2.2.2.2.2.2.1 x.2.2.2.2.2.2.2.2.1 x.2.2.2.2.2.2.2.2.2.1 x.2.2.2.2.2.2.2.2.2.2.1 x.2.2.2.2.2.2.2.2.2.2.2.1 x.2.2.2.2.2.2.2.2.2.2.2.2.1 x.2.2.2.2.2.2.2.2.2.2.2.2.2.1 x.2.2.2.2.2.2.2.2.2.2.2.2.2.2.1 x.2.2.2.2.2.2.2.2.2.2.2.2.2.2.2.1 x.2.2.2.2.2.2.2.2.2.2.2.2.2.2.2.2.1 x.2.2.2.2.2.2.2.2.2.2.2.2.2.2.2.2.2.1 x.2.2.2.2.2.2.2.2.2.2.2.2.2.2.2.2.2.2.1 x.2.2.2.2.2.2.2.2.2.2.2.2.2.2.2.2.2.2.2.1 x.2.2.2.2.2.2.2.2.2.2.2.2.2.2.2.2.2.2.2.2.1 x.2.2.2.2.2.2.2.2.2.2.2.2.2.2.2.2.2.2.2.2.2.1 x.2.2.2.2.2.2.2.2.2.2.2.2.2.2.2.2.2.2.2.2.2.2.1 x.2.2.2.2.2.2.2.2.2.2.2.2.2.2.2.2.2.2.2.2.2.2.2.1 x.2.2.2.2.2.2.2.2.2.2.2.2.2.2.2.2.2.2.2.2.2.2.2.2.1 x.2.2.2.2.2.2.2.2.2.2.2.2.2.2.2.2.2.2.2.2.2.2.2.2.2.1 x.2.2.2.2.2.2.2.2.2.2.2.2.2.2.2.2.2.2.2.2.2.2.2.2.2.2.1 x.2.2.2.2.2.2.2.2.2.2.2.2.2.2.2.2.2.2.2.2.2.2.2.2.2.2.2
theorem eps28 {A0 A1 A2 A3 A4 A5 A6 A7 A8 A9 A10 A11 A12 A13 A14 A15 A16 A17 A18 A19 A20 A21 A22 A23 A24 A25 A26 A27 : Type} (ne : Nonempty (A0 × A1 × A2 × A3 × A4 × A5 × A6 × A7 × A8 × A9 × A10 × A11 × A12 × A13 × A14 × A15 × A16 × A17 × A18 × A19 × A20 × A21 × A22 × A23 × A24 × A25 × A26 × A27)) {P : A0 → A1 → A2 → A3 → A4 → A5 → A6 → A7 → A8 → A9 → A10 → A11 → A12 → A13 → A14 → A15 → A16 → A17 → A18 → A19 → A20 → A21 → A22 → A23 → A24 → A25 → A26 → A27 → Prop} (h : P (zz ne (I := ⟨un28 P⟩)).1 (zz ne (I := ⟨un28 P⟩)).2.1 (zz ne (I := ⟨un28 P⟩)).2.2.1 (zz ne (I := ⟨un28 P⟩)).2.2.2.1 (zz ne (I := ⟨un28 P⟩)).2.2.2.2.1 (zz ne (I := ⟨un28 P⟩)).2.2.2.2.2.1 (zz ne (I := ⟨un28 P⟩)).2.2.2.2.2.2.1 (zz ne (I := ⟨un28 P⟩)).2.2.2.2.2.2.2.1 (zz ne (I := ⟨un28 P⟩)).2.2.2.2.2.2.2.2.1 (zz ne (I := ⟨un28 P⟩)).2.2.2.2.2.2.2.2.2.1 (zz ne (I := ⟨un28 P⟩)).2.2.2.2.2.2.2.2.2.2.1 (zz ne (I := ⟨un28 P⟩)).2.2.2.2.2.2.2.2.2.2.2.1 (zz ne (I := ⟨un28 P⟩)).2.2.2.2.2.2.2.2.2.2.2.2.1 (zz ne (I := ⟨un28 P⟩)).2.2.2.2.2.2.2.2.2.2.2.2.2.1 (zz ne (I := ⟨un28 P⟩)).2.2.2.2.2.2.2.2.2.2.2.2.2.2.1 (zz ne (I := ⟨un28 P⟩)).2.2.2.2.2.2.2.2.2.2.2.2.2.2.2.1 (zz ne (I := ⟨un28 P⟩)).2.2.2.2.2.2.2.2.2.2.2.2.2.2.2.2.1 (zz ne (I := ⟨un28 P⟩)).2.2.2.2.2.2.2.2.2.2.2.2.2.2.2.2.2.1 (zz ne (I := ⟨un28 P⟩)).2.2.2.2.2.2.2.2.2.2.2.2.2.2.2.2.2.2.1 (zz ne (I := ⟨un28 P⟩)).2.2.2.2.2.2.2.2.2.2.2.2.2.2.2.2.2.2.2.1 (zz ne (I := ⟨un28 P⟩)).2.2.2.2.2.2.2.2.2.2.2.2.2.2.2.2.2.2.2.2.1 (zz ne (I := ⟨un28 P⟩)).2.2.2.2.2.2.2.2.2.2.2.2.2.2.2.2.2.2.2.2.2.1 (zz ne (I := ⟨un28 P⟩)).2.2.2.2.2.2.2.2.2.2.2.2.2.2.2.2.2.2.2.2.2.2.1 (zz ne (I := ⟨un28 P⟩)).2.2.2.2.2.2.2.2.2.2.2.2.2.2.2.2.2.2.2.2.2.2.2.1 (zz ne (I := ⟨un28 P⟩)).2.2.2.2.2.2.2.2.2.2.2.2.2.2.2.2.2.2.2.2.2.2.2.2.1 (zz ne (I := ⟨un28 P⟩)).2.2.2.2.2.2.2.2.2.2.2.2.2.2.2.2.2.2.2.2.2.2.2.2.2.1 (zz ne (I := ⟨un28 P⟩)).2.2.2.2.2.2.2.2.2.2.2.2.2.2.2.2.2.2.2.2.2.2.2.2.2.2.1 (zz ne (I := ⟨un28 P⟩)).2.2.2.2.2.2.2.2.2.2.2.2.2.2.2.2.2.2.2.2.2.2.2.2.2.2.2) : ∀ x0 x1 x2 x3 x4 x5 x6 x7 x8 x9 x10 x11 x12 x13 x14 x15 x16 x17 x18 x19 x20 x21 x22 x23 x24 x25 x26 x27, P x0 x1 x2 x3 x4 x5 x6 x7 x8 x9 x10 x11 x12 x13 x14 x15 x16 x17 x18 x19 x20 x21 x22 x23 x24 x25 x26 x27 :=
  fun x0 x1 x2 x3 x4 x5 x6 x7 x8 x9 x10 x11 x12 x13 x14 x15 x16 x17 x18 x19 x20 x21 x22 x23 x24 x25 x26 x27 => zz_all ne (un28 P) h (x0, x1, x2, x3, x4, x5, x6, x7, x8, x9, x10, x11, x12, x13, x14, x15, x16, x17, x18, x19, x20, x21, x22, x23, x24, x25, x26, x27)
def un32 {A0 A1 A2 A3 A4 A5 A6 A7 A8 A9 A10 A11 A12 A13 A14 A15 A16 A17 A18 A19 A20 A21 A22 A23 A24 A25 A26 A27 A28 A29 A30 A31 : Type} (P : A0 → A1 → A2 → A3 → A4 → A5 → A6 → A7 → A8 → A9 → A10 → A11 → A12 → A13 → A14 → A15 → A16 → A17 → A18 → A19 → A20 → A21 → A22 → A23 → A24 → A25 → A26 → A27 → A28 → A29 → A30 → A31 → Prop) : A0 × A1 × A2 × A3 × A4 × A5 × A6 × A7 × A8 × A9 × A10 × A11 × A12 × A13 × A14 × A15 × A16 × A17 × A18 × A19 × A20 × A21 × A22 × A23 × A24 × A25 × A26 × A27 × A28 × A29 × A30 × A31 → Prop := fun x => P x.1 x.2.1 x.2.2.1 x.2.2.2.1 x.2.2.2.2.1 x.2.2.2.2.2.1 x.2.2.2.2.2.2.1 x.2.2.2.2.2.2.2.1 x.2.2.2.2.2.2.2.2.1 x.2.2.2.2.2.2.2.2.2.1 x.2.2.2.2.2.2.2.2.2.2.1 x.2.2.2.2.2.2.2.2.2.2.2.1 x.2.2.2.2.2.2.2.2.2.2.2.2.1 x.2.2.2.2.2.2.2.2.2.2.2.2.2.1 x.2.2.2.2.2.2.2.2.2.2.2.2.2.2.1 x.2.2.2.2.2.2.2.2.2.2.2.2.2.2.2.1 x.2.2.2.2.2.2.2.2.2.2.2.2.2.2.2.2.1 x.2.2.2.2.2.2.2.2.2.2.2.2.2.2.2.2.2.1 x.2.2.2.2.2.2.2.2.2.2.2.2.2.2.2.2.2.2.1 x.2.2.2.2.2.2.2.2.2.2.2.2.2.2.2.2.2.2.2.1 x.2.2.2.2.2.2.2.2.2.2.2.2.2.2.2.2.2.2.2.2.1 x.2.2.2.2.2.2.2.2.2.2.2.2.2.2.2.2.2.2.2.2.2.1 x.2.2.2.2.2.2.2.2.2.2.2.2.2.2.2.2.2.2.2.2.2.2.1 x.2.2.2.2.2.2.2.2.2.2.2.2.2.2.2.2.2.2.2.2.2.2.2.1 x.2.2.2.2.2.2.2.2.2.2.2.2.2.2.2.2.2.2.2.2.2.2.2.2.1 x.2.2.2.2.2.2.2.2.2.2.2.2.2.2.2.2.2.2.2.2.2.2.2.2.2.1 x.2.2.2.2.2.2.2.2.2.2.2.2.2.2.2.2.2.2.2.2.2.2.2.2.2.2.1 x.2.2.2.2.2.2.2.2.2.2.2.2.2.2.2.2.2.2.2.2.2.2.2.2.2.2.2.1 x.2.2.2.2.2.2.2.2.2.2.2.2.2.2.2.2.2.2.2.2.2.2.2.2.2.2.2.2.1 x.2.2.2.2.2.2.2.2.2.2.2.2.2.2.2.2.2.2.2.2.2.2.2.2.2.2.2.2.2.1 x.2.2.2.2.2.2.2.2.2.2.2.2.2.2.2.2.2.2.2.2.2.2.2.2.2.2.2.2.2.2.1 x.2.2.2.2.2.2.2.2.2.2.2.2.2.2.2.2.2.2.2.2.2.2.2.2.2.2.2.2.2.2.2
theorem eps32 {A0 A1 A2 A3 A4 A5 A6 A7 A8 A9 A10 A11 A12 A13 A14 A15 A16 A17 A18 A19 A20 A21 A22 A23 A24 A25 A26 A27 A28 A29 A30 A31 : Type} (ne : Nonempty (A0 × A1 × A2 × A3 × A4 × A5 × A6 × A7 × A8 × A9 × A10 × A11 × A12 × A13 × A14 × A15 × A16 × A17 × A18 × A19 × A20 × A21 × A22 × A23 × A24 × A25 × A26 × A27 × A28 × A29 × A30 × A31)) {P : A0 → A1 → A2 → A3 → A4 → A5 → A6 → A7 → A8 → A9 → A10 → A11 → A12 → A13 → A14 → A15 → A16 → A17 → A18 → A19 → A20 → A21 → A22 → A23 → A24 → A25 → A26 → A27 → A28 → A29 → A30 → A31 → Prop} (h : P (zz ne (I := ⟨un32 P⟩)).1 (zz ne (I := ⟨un32 P⟩)).2.1 (zz ne (I := ⟨un32 P⟩)).2.2.1 (zz ne (I := ⟨un32 P⟩)).2.2.2.1 (zz ne (I := ⟨un32 P⟩)).2.2.2.2.1 (zz ne (I := ⟨un32 P⟩)).2.2.2.2.2.1 (zz ne (I := ⟨un32 P⟩)).2.2.2.2.2.2.1 (zz ne (I := ⟨un32 P⟩)).2.2.2.2.2.2.2.1 (zz ne (I := ⟨un32 P⟩)).2.2.2.2.2.2.2.2.1 (zz ne (I := ⟨un32 P⟩)).2.2.2.2.2.2.2.2.2.1 (zz ne (I := ⟨un32 P⟩)).2.2.2.2.2.2.2.2.2.2.1 (zz ne (I := ⟨un32 P⟩)).2.2.2.2.2.2.2.2.2.2.2.1 (zz ne (I := ⟨un32 P⟩)).2.2.2.2.2.2.2.2.2.2.2.2.1 (zz ne (I := ⟨un32 P⟩)).2.2.2.2.2.2.2.2.2.2.2.2.2.1 (zz ne (I := ⟨un32 P⟩)).2.2.2.2.2.2.2.2.2.2.2.2.2.2.1 (zz ne (I := ⟨un32 P⟩)).2.2.2.2.2.2.2.2.2.2.2.2.2.2.2.1 (zz ne (I := ⟨un32 P⟩)).2.2.2.2.2.2.2.2.2.2.2.2.2.2.2.2.1 (zz ne (I := ⟨un32 P⟩)).2.2.2.2.2.2.2.2.2.2.2.2.2.2.2.2.2.1 (zz ne (I := ⟨un32 P⟩)).2.2.2.2.2.2.2.2.2.2.2.2.2.2.2.2.2.2.1 (zz ne (I := ⟨un32 P⟩)).2.2.2.2.2.2.2.2.2.2.2.2.2.2.2.2.2.2.2.1 (zz ne (I := ⟨un32 P⟩)).2.2.2.2.2.2.2.2.2.2.2.2.2.2.2.2.2.2.2.2.1 (zz ne (I := ⟨un32 P⟩)).2.2.2.2.2.2.2.2.2.2.2.2.2.2.2.2.2.2.2.2.2.1 (zz ne (I := ⟨un32 P⟩)).2.2.2.2.2.2.2.2.2.2.2.2.2.2.2.2.2.2.2.2.2.2.1 (zz ne (I := ⟨un32 P⟩)).2.2.2.2.2.2.2.2.2.2.2.2.2.2.2.2.2.2.2.2.2.2.2.1 (zz ne (I := ⟨un32 P⟩)).2.2.2.2.2.2.2.2.2.2.2.2.2.2.2.2.2.2.2.2.2.2.2.2.1 (zz ne (I := ⟨un32 P⟩)).2.2.2.2.2.2.2.2.2.2.2.2.2.2.2.2.2.2.2.2.2.2.2.2.2.1 (zz ne (I := ⟨un32 P⟩)).2.2.2.2.2.2.2.2.2.2.2.2.2.2.2.2.2.2.2.2.2.2.2.2.2.2.1 (zz ne (I := ⟨un32 P⟩)).2.2.2.2.2.2.2.2.2.2.2.2.2.2.2.2.2.2.2.2.2.2.2.2.2.2.2.1 (zz ne (I := ⟨un32 P⟩)).2.2.2.2.2.2.2.2.2.2.2.2.2.2.2.2.2.2.2.2.2.2.2.2.2.2.2.2.1 (zz ne (I := ⟨un32 P⟩)).2.2.2.2.2.2.2.2.2.2.2.2.2.2.2.2.2.2.2.2.2.2.2.2.2.2.2.2.2.1 (zz ne (I := ⟨un32 P⟩)).2.2.2.2.2.2.2.2.2.2.2.2.2.2.2.2.2.2.2.2.2.2.2.2.2.2.2.2.2.2.1 (zz ne (I := ⟨un32 P⟩)).2.2.2.2.2.2.2.2.2.2.2.2.2.2.2.2.2.2.2.2.2.2.2.2.2.2.2.2.2.2.2) : ∀ x0 x1 x2 x3 x4 x5 x6 x7 x8 x9 x10 x11 x12 x13 x14 x15 x16 x17 x18 x19 x20 x21 x22 x23 x24 x25 x26 x27 x28 x29 x30 x31, P x0 x1 x2 x3 x4 x5 x6 x7 x8 x9 x10 x11 x12 x13 x14 x15 x16 x17 x18 x19 x20 x21 x22 x23 x24 x25 x26 x27 x28 x29 x30 x31 :=
  fun x0 x1 x2 x3 x4 x5 x6 x7 x8 x9 x10 x11 x12 x13 x14 x15 x16 x17 x18 x19 x20 x21 x22 x23 x24 x25 x26 x27 x28 x29 x30 x31 => zz_all ne (un32 P) h (x0, x1, x2, x3, x4, x5, x6, x7, x8, x9, x10, x11, x12, x13, x14, x15, x16, x17, x18, x19, x20, x21, x22, x23, x24, x25, x26, x27, x28, x29, x30, x31)
def un37 {A0 A1 A2 A3 A4 A5 A6 A7 A8 A9 A10 A11 A12 A13 A14 A15 A16 A17 A18 A19 A20 A21 A22 A23 A24 A25 A26 A27 A28 A29 A30 A31 A32 A33 A34 A35 A36 : Type} (P : A0 → A1 → A2 → A3 → A4 → A5 → A6 → A7 → A8 → A9 → A10 → A11 → A12 → A13 → A14 → A15 → A16 → A17 → A18 → A19 → A20 → A21 → A22 → A23 → A24 → A25 → A26 → A27 → A28 → A29 → A30 → A31 → A32 → A33 → A34 → A35 → A36 → Prop) : A0 × A1 × A2 × A3 × A4 × A5 × A6 × A7 × A8 × A9 × A10 × A11 × A12 × A13 × A14 × A15 × A16 × A17 × A18 × A19 × A20 × A21 × A22 × A23 × A24 × A25 × A26 × A27 × A28 × A29 × A30 × A31 × A32 × A33 × A34 × A35 × A36 → Prop := fun x => P x.1 x.2.1 x.2.2.1 x.2.2.2.1 x.2.2.2.2.1 x.2.2.2.2.2.1 x.2.2.2.2.2.2.1 x.2.2.2.2.2.2.2.1 x.2.2.2.2.2.2.2.2.1 x.2.2.2.2.2.2.2.2.2.1 x.2.2.2.2.2.2.2.2.2.2.1 x.2.2.2.2.2.2.2.2.2.2.2.1 x.2.2.2.2.2.2.2.2.2.2.2.2.1 x.2.2.2.2.2.2.2.2.2.2.2.2.2.1 x.2.2.2.2.2.2.2.2.2.2.2.2.2.2.1 x.2.2.2.2.2.2.2.2.2.2.2.2.2.2.2.1 x.2.2.2.2.2.2.2.2.2.2.2.2.2.2.2.2.1 x.2.2.2.2.2.2.2.2.2.2.2.2.2.2.2.2.2.1 x.2.2.2.2.2.2.2.2.2.2.2.2.2.2.2.2.2.2.1 x.2.2.2.2.2.2.2.2.2.2.2.2.2.2.2.2.2.2.2.1 x.2.2.2.2.2.2.2.2.2.2.2.2.2.2.2.2.2.2.2.2.1 x.2.2.2.2.2.2.2.2.2.2.2.2.2.2.2.2.2.2.2.2.2.1 x.2.2.2.2.2.2.2.2.2.2.2.2.2.2.2.2.2.2.2.2.2.2.1 x.2.2.2.2.2.2.2.2.2.2.2.2.2.2.2.2.2.2.2.2.2.2.2.1 x.2.2.2.2.2.2.2.2.2.2.2.2.2.2.2.2.2.2.2.2.2.2.2.2.1 x.2.2.2.2.2.2.2.2.2.2.2.2.2.2.2.2.2.2.2.2.2.2.2.2.2.1 x.2.2.2.2.2.2.2.2.2.2.2.2.2.2.2.2.2.2.2.2.2.2.2.2.2.2.1 x.2.2.2.2.2.2.2.2.2.2.2.2.2.2.2.2.2.2.2.2.2.2.2.2.2.2.2.1 x.2.2.2.2.2.2.2.2.2.2.2.2.2.2.2.2.2.2.2.2.2.2.2.2.2.2.2.2.1 x.2.2.2.2.2.2.2.2.2.2.2.2.2.2.2.2.2.2.2.2.2.2.2.2.2.2.2.2.2.1 x.2.2.2.2.2.2.2.2.2.2.2.2.2.2.2.2.2.2.2.2.2.2.2.2.2.2.2.2.2.2.1 x.2.2.2.2.2.2.2.2.2.2.2.2.2.2.2.2.2.2.2.2.2.2.2.2.2.2.2.2.2.2.2.1 x.2.2.2.2.2.2.2.2.2.2.2.2.2.2.2.2.2.2.2.2.2.2.2.2.2.2.2.2.2.2.2.2.1 x.2.2.2.2.2.2.2.2.2.2.2.2.2.2.2.2.2.2.2.2.2.2.2.2.2.2.2.2.2.2.2.2.2.1 x.2.2.2.2.2.2.2.2.2.2.2.2.2.2.2.2.2.2.2.2.2.2.2.2.2.2.2.2.2.2.2.2.2.2.1 x.2.2.2.2.2.2.2.2.2.2.2.2.2.2.2.2.2.2.2.2.2.2.2.2.2.2.2.2.2.2.2.2.2.2.2.1 x.2.2.2.2.2.2.2.2.2.2.2.2.2.2.2.2.2.2.2.2.2.2.2.2.2.2.2.2.2.2.2.2.2.2.2.2
theorem eps37 {A0 A1 A2 A3 A4 A5 A6 A7 A8 A9 A10 A11 A12 A13 A14 A15 A16 A17 A18 A19 A20 A21 A22 A23 A24 A25 A26 A27 A28 A29 A30 A31 A32 A33 A34 A35 A36 : Type} (ne : Nonempty (A0 × A1 × A2 × A3 × A4 × A5 × A6 × A7 × A8 × A9 × A10 × A11 × A12 × A13 × A14 × A15 × A16 × A17 × A18 × A19 × A20 × A21 × A22 × A23 × A24 × A25 × A26 × A27 × A28 × A29 × A30 × A31 × A32 × A33 × A34 × A35 × A36)) {P : A0 → A1 → A2 → A3 → A4 → A5 → A6 → A7 → A8 → A9 → A10 → A11 → A12 → A13 → A14 → A15 → A16 → A17 → A18 → A19 → A20 → A21 → A22 → A23 → A24 → A25 → A26 → A27 → A28 → A29 → A30 → A31 → A32 → A33 → A34 → A35 → A36 → Prop} (h : P (zz ne (I := ⟨un37 P⟩)).1 (zz ne (I := ⟨un37 P⟩)).2.1 (zz ne (I := ⟨un37 P⟩)).2.2.1 (zz ne (I := ⟨un37 P⟩)).2.2.2.1 (zz ne (I := ⟨un37 P⟩)).2.2.2.2.1 (zz ne (I := ⟨un37 P⟩)).2.2.2.2.2.1 (zz ne (I := ⟨un37 P⟩)).2.2.2.2.2.2.1 (zz ne (I := ⟨un37 P⟩)).2.2.2.2.2.2.2.1 (zz ne (I := ⟨un37 P⟩)).2.2.2.2.2.2.2.2.1 (zz ne (I := ⟨un37 P⟩)).2.2.2.2.2.2.2.2.2.1 (zz ne (I := ⟨un37 P⟩)).2.2.2.2.2.2.2.2.2.2.1 (zz ne (I := ⟨un37 P⟩)).2.2.2.2.2.2.2.2.2.2.2.1 (zz ne (I := ⟨un37 P⟩)).2.2.2.2.2.2.2.2.2.2.2.2.1 (zz ne (I := ⟨un37 P⟩)).2.2.2.2.2.2.2.2.2.2.2.2.2.1 (zz ne (I := ⟨un37 P⟩)).2.2.2.2.2.2.2.2.2.2.2.2.2.2.1 (zz ne (I := ⟨un37 P⟩)).2.2.2.2.2.2.2.2.2.2.2.2.2.2.2.1 (zz ne (I := ⟨un37 P⟩)).2.2.2.2.2.2.2.2.2.2.2.2.2.2.2.2.1 (zz ne (I := ⟨un37 P⟩)).2.2.2.2.2.2.2.2.2.2.2.2.2.2.2.2.2.1 (zz ne (I := ⟨un37 P⟩)).2.2.2.2.2.2.2.2.2.2.2.2.2.2.2.2.2.2.1 (zz ne (I := ⟨un37 P⟩)).2.2.2.2.2.2.2.2.2.2.2.2.2.2.2.2.2.2.2.1 (zz ne (I := ⟨un37 P⟩)).2.2.2.2.2.2.2.2.2.2.2.2.2.2.2.2.2.2.2.2.1 (zz ne (I := ⟨un37 P⟩)).2.2.2.2.2.2.2.2.2.2.2.2.2.2.2.2.2.2.2.2.2.1 (zz ne (I := ⟨un37 P⟩)).2.2.2.2.2.2.2.2.2.2.2.2.2.2.2.2.2.2.2.2.2.2.1 (zz ne (I := ⟨un37 P⟩)).2.2.2.2.2.2.2.2.2.2.2.2.2.2.2.2.2.2.2.2.2.2.2.1 (zz ne (I := ⟨un37 P⟩)).2.2.2.2.2.2.2.2.2.2.2.2.2.2.2.2.2.2.2.2.2.2.2.2.1 (zz ne (I := ⟨un37 P⟩)).2.2.2.2.2.2.2.2.2.2.2.2.2.2.2.2.2.2.2.2.2.2.2.2.2.1 (zz ne (I := ⟨un37 P⟩)).2.2.2.2.2.2.2.2.2.2.2.2.2.2.2.2.2.2.2.2.2.2.2.2.2.2.1 (zz ne (I := ⟨un37 P⟩)).2.2.2.2.2.2.2.2.2.2.2.2.2.2.2.2.2.2.2.2.2.2.2.2.2.2.2.1 (zz ne (I := ⟨un37 P⟩)).2.2.2.2.2.2.2.2.2.2.2.2.2.2.2.2.2.2.2.2.2.2.2.2.2.2.2.2.1 (zz ne (I := ⟨un37 P⟩)).2.2.2.2.2.2.2.2.2.2.2.2.2.2.2.2.2.2.2.2.2.2.2.2.2.2.2.2.2.1 (zz ne (I := ⟨un37 P⟩)).2.2.2.2.2.2.2.2.2.2.2.2.2.2.2.2.2.2.2.2.2.2.2.2.2.2.2.2.2.2.1 (zz ne (I := ⟨un37 P⟩)).2.2.2.2.2.2.2.2.2.2.2.2.2.2.2.2.2.2.2.2.2.2.2.2.2.2.2.2.2.2.2.1 (zz ne (I := ⟨un37 P⟩)).2.2.2.2.2.2.2.2.2.2.2.2.2.2.2.2.2.2.2.2.2.2.2.2.2.2.2.2.2.2.2.2.1 (zz ne (I := ⟨un37 P⟩)).2.2.2.2.2.2.2.2.2.2.2.2.2.2.2.2.2.2.2.2.2.2.2.2.2.2.2.2.2.2.2.2.2.1 (zz ne (I := ⟨un37 P⟩)).2.2.2.2.2.2.2.2.2.2.2.2.2.2.2.2.2.2.2.2.2.2.2.2.2.2.2.2.2.2.2.2.2.2.1 (zz ne (I := ⟨un37 P⟩)).2.2.2.2.2.2.2.2.2.2.2.2.2.2.2.2.2.2.2.2.2.2.2.2.2.2.2.2.2.2.2.2.2.2.2.1 (zz ne (I := ⟨un37 P⟩)).2.2.2.2.2.2.2.2.2.2.2.2.2.2.2.2.2.2.2.2.2.2.2.2.2.2.2.2.2.2.2.2.2.2.2.2) : ∀ x0 x1 x2 x3 x4 x5 x6 x7 x8 x9 x10 x11 x12 x13 x14 x15 x16 x17 x18 x19 x20 x21 x22 x23 x24 x25 x26 x27 x28 x29 x30 x31 x32 x33 x34 x35 x36, P x0 x1 x2 x3 x4 x5 x6 x7 x8 x9 x10 x11 x12 x13 x14 x15 x16 x17 x18 x19 x20 x21 x22 x23 x24 x25 x26 x27 x28 x29 x30 x31 x32 x33 x34 x35 x36 :=
  fun x0 x1 x2 x3 x4 x5 x6 x7 x8 x9 x10 x11 x12 x13 x14 x15 x16 x17 x18 x19 x20 x21 x22 x23 x24 x25 x26 x27 x28 x29 x30 x31 x32 x33 x34 x35 x36 => zz_all ne (un37 P) h (x0, x1, x2, x3, x4, x5, x6, x7, x8, x9, x10, x11, x12, x13, x14, x15, x16, x17, x18, x19, x20, x21, x22, x23, x24, x25, x26, x27, x28, x29, x30, x31, x32, x33, x34, x35, x36)
def un41 {A0 A1 A2 A3 A4 A5 A6 A7 A8 A9 A10 A11 A12 A13 A14 A15 A16 A17 A18 A19 A20 A21 A22 A23 A24 A25 A26 A27 A28 A29 A30 A31 A32 A33 A34 A35 A36 A37 A38 A39 A40 : Type} (P : A0 → A1 → A2 → A3 → A4 → A5 → A6 → A7 → A8 → A9 → A10 → A11 → A12 → A13 → A14 → A15 → A16 → A17 → A18 → A19 → A20 → A21 → A22 → A23 → A24 → A25 → A26 → A27 → A28 → A29 → A30 → A31 → A32 → A33 → A34 → A35 → A36 → A37 → A38 → A39 → A40 → Prop) : A0 × A1 × A2 × A3 × A4 × A5 × A6 × A7 × A8 × A9 × A10 × A11 × A12 × A13 × A14 × A15 × A16 × A17 × A18 × A19 × A20 × A21 × A22 × A23 × A24 × A25 × A26 × A27 × A28 × A29 × A30 × A31 × A32 × A33 × A34 × A35 × A36 × A37 × A38 × A39 × A40 → Prop := fun x => P x.1 x.2.1 x.2.2.1 x.2.2.2.1 x.2.2.2.2.1 x.2.2.2.2.2.1 x.2.2.2.2.2.2.1 x.2.2.2.2.2.2.2.1 x.2.2.2.2.2.2.2.2.1 x.2.2.2.2.2.2.2.2.2.1 x.2.2.2.2.2.2.2.2.2.2.1 x.2.2.2.2.2.2.2.2.2.2.2.1 x.2.2.2.2.2.2.2.2.2.2.2.2.1 x.2.2.2.2.2.2.2.2.2.2.2.2.2.1 x.2.2.2.2.2.2.2.2.2.2.2.2.2.2.1 x.2.2.2.2.2.2.2.2.2.2.2.2.2.2.2.1 x.2.2.2.2.2.2.2.2.2.2.2.2.2.2.2.2.1 x.2.2.2.2.2.2.2.2.2.2.2.2.2.2.2.2.2.1 x.2.2.2.2.2.2.2.2.2.2.2.2.2.2.2.2.2.2.1 x.2.2.2.2.2.2.2.2.2.2.2.2.2.2.2.2.2.2.2.1 x.2.2.2.2.2.2.2.2.2.2.2.2.2.2.2.2.2.2.2.2.1 x.2.2.2.2.2.2.2.2.2.2.2.2.2.2.2.2.2.2.2.2.2.1 x.2.2.2.2.2.2.2.2.2.2.2.2.2.2.2.2.2.2.2.2.2.2.1 x.2.2.2.2.2.2.2.2.2.2.2.2.2.2.2.2.2.2.2.2.2.2.2.1 x.2.2.2.2.2.2.2.2.2.2.2.2.2.2.2.2.2.2.2.2.2.2.2.2.1 x.2.2.2.2.2.2.2.2.2.2.2.2.2.2.2.2.2.2.2.2.2.2.2.2.2.1 x.2.2.2.2.2.2.2.2.2.2.2.2.2.2.2.2.2.2.2.2.2.2.2.2.2.2.1 x.2.2.2.2.2.2.2.2.2.2.2.2.2.2.2.2.2.2.2.2.2.2.2.2.2.2.2.1 x.2.2.2.2.2.2.2.2.2.2.2.2.2.2.2.2.2.2.2.2.2.2.2.2.2.2.2.2.1 x.2.2.2.2.2.2.2.2.2.2.2.2.2.2.2.2.2.2.2.2.2.2.2.2.2.2.2.2.2.1 x.2.2.2.2.2.2.2.2.2.2.2.2.2.2.2.2.2.2.2.2.2.2.2.2.2.2.2.2.2.2.1 x.2.2.2.2.2.2.2.2.2.2.2.2.2.2.2.2.2.2.2.2.2.2.2.2.2.2.2.2.2.2.2.1 x.2.2.2.2.2.2.2.2.2.2.2.2.2.2.2.2.2.2.2.2.2.2.2.2.2.2.2.2.2.2.2.2.1 x.2.2.2.2.2.2.2.2.2.2.2.2.2.2.2.2.2.2.2.2.2.2.2.2.2.2.2.2.2.2.2.2.2.1 x.2.2.2.2.2.2.2.2.2.2.2.2.2.2.2.2.2.2.2.2.2.2.2.2.2.2.2.2.2.2.2.2.2.2.1 x.2.2.2.2.2.2.2.2.2.2.2.2.2.2.2.2.2.2.2.2.2.2.2.2.2.2.2.2.2.2.2.2.2.2.2.1 x.2.2.2.2.2.2.2.2.2.2.2.2.2.2.2.2.2.2.2.2.2.2.2.2.2.2.2.2.2.2.2.2.2.2.2.2.1 x.2.2.2.2.2.2.2.2.2.2.2.2.2.2.2.2.2.2.2.2.2.2.2.2.2.2.2.2.2.2.2.2.2.2.2.2.2.1 x.2.2.2.2.2.2.2.2.2.2.2.2.2.2.2.2.2.2.2.2.2.2.2.2.2.2.2.2.2.2.2.2.2.2.2.2.2.2.1 x.2.2.2.2.2.2.2.2.2.2.2.2.2.2.2.2.2.2.2.2.2.2.2.2.2.2.2.2.2.2.2.2.2.2.2.2.2.2.2.1 x.2.2.2.2.2.2.2.2.2.2.2.2.2.2.2.2.2.2.2.2.2.2.2.2.2.2.2.2.2.2.2.2.2.2.2.2.2.2.2.2
theorem eps41 {A0 A1 A2 A3 A4 A5 A6 A7 A8 A9 A10 A11 A12 A13 A14 A15 A16 A17 A18 A19 A20 A21 A22 A23 A24 A25 A26 A27 A28 A29 A30 A31 A32 A33 A34 A35 A36 A37 A38 A39 A40 : Type} (ne : Nonempty (A0 × A1 × A2 × A3 × A4 × A5 × A6 × A7 × A8 × A9 × A10 × A11 × A12 × A13 × A14 × A15 × A16 × A17 × A18 × A19 × A20 × A21 × A22 × A23 × A24 × A25 × A26 × A27 × A28 × A29 × A30 × A31 × A32 × A33 × A34 × A35 × A36 × A37 × A38 × A39 × A40)) {P : A0 → A1 → A2 → A3 → A4 → A5 → A6 → A7 → A8 → A9 → A10 → A11 → A12 → A13 → A14 → A15 → A16 → A17 → A18 → A19 → A20 → A21 → A22 → A23 → A24 → A25 → A26 → A27 → A28 → A29 → A30 → A31 → A32 → A33 → A34 → A35 → A36 → A37 → A38 → A39 → A40 → Prop} (h : P (zz ne (I := ⟨un41 P⟩)).1 (zz ne (I := ⟨un41 P⟩)).2.1 (zz ne (I := ⟨un41 P⟩)).2.2.1 (zz ne (I := ⟨un41 P⟩)).2.2.2.1 (zz ne (I := ⟨un41 P⟩)).2.2.2.2.1 (zz ne (I := ⟨un41 P⟩)).2.2.2.2.2.1 (zz ne (I := ⟨un41 P⟩)).2.2.2.2.2.2.1 (zz ne (I := ⟨un41 P⟩)).2.2.2.2.2.2.2.1 (zz ne (I := ⟨un41 P⟩)).2.2.2.2.2.2.2.2.1 (zz ne (I := ⟨un41 P⟩)).2.2.2.2.2.2.2.2.2.1 (zz ne (I := ⟨un41 P⟩)).2.2.2.2.2.2.2.2.2.2.1 (zz ne (I := ⟨un41 P⟩)).2.2.2.2.2.2.2.2.2.2.2.1 (zz ne (I := ⟨un41 P⟩)).2.2.2.2.2.2.2.2.2.2.2.2.1 (zz ne (I := ⟨un41 P⟩)).2.2.2.2.2.2.2.2.2.2.2.2.2.1 (zz ne (I := ⟨un41 P⟩)).2.2.2.2.2.2.2.2.2.2.2.2.2.2.1 (zz ne (I := ⟨un41 P⟩)).2.2.2.2.2.2.2.2.2.2.2.2.2.2.2.1 (zz ne (I := ⟨un41 P⟩)).2.2.2.2.2.2.2.2.2.2.2.2.2.2.2.2.1 (zz ne (I := ⟨un41 P⟩)).2.2.2.2.2.2.2.2.2.2.2.2.2.2.2.2.2.1 (zz ne (I := ⟨un41 P⟩)).2.2.2.2.2.2.2.2.2.2.2.2.2.2.2.2.2.2.1 (zz ne (I := ⟨un41 P⟩)).2.2.2.2.2.2.2.2.2.2.2.2.2.2.2.2.2.2.2.1 (zz ne (I := ⟨un41 P⟩)).2.2.2.2.2.2.2.2.2.2.2.2.2.2.2.2.2.2.2.2.1 (zz ne (I := ⟨un41 P⟩)).2.2.2.2.2.2.2.2.2.2.2.2.2.2.2.2.2.2.2.2.2.1 (zz ne (I := ⟨un41 P⟩)).2.2.2.2.2.2.2.2.2.2.2.2.2.2.2.2.2.2.2.2.2.2.1 (zz ne (I := ⟨un41 P⟩)).2.2.2.2.2.2.2.2.2.2.2.2.2.2.2.2.2.2.2.2.2.2.2.1 (zz ne (I := ⟨un41 P⟩)).2.2.2.2.2.2.2.2.2.2.2.2.2.2.2.2.2.2.2.2.2.2.2.2.1 (zz ne (I := ⟨un41 P⟩)).2.2.2.2.2.2.2.2.2.2.2.2.2.2.2.2.2.2.2.2.2.2.2.2.2.1 (zz ne (I := ⟨un41 P⟩)).2.2.2.2.2.2.2.2.2.2.2.2.2.2.2.2.2.2.2.2.2.2.2.2.2.2.1 (zz ne (I := ⟨un41 P⟩)).2.2.2.2.2.2.2.2.2.2.2.2.2.2.2.2.2.2.2.2.2.2.2.2.2.2.2.1 (zz ne (I := ⟨un41 P⟩)).2.2.2.2.2.2.2.2.2.2.2.2.2.2.2.2.2.2.2.2.2.2.2.2.2.2.2.2.1 (zz ne (I := ⟨un41 P⟩)).2.2.2.2.2.2.2.2.2.2.2.2.2.2.2.2.2.2.2.2.2.2.2.2.2.2.2.2.2.1 (zz ne (I := ⟨un41 P⟩)).2.2.2.2.2.2.2.2.2.2.2.2.2.2.2.2.2.2.2.2.2.2.2.2.2.2.2.2.2.2.1 (zz ne (I := ⟨un41 P⟩)).2.2.2.2.2.2.2.2.2.2.2.2.2.2.2.2.2.2.2.2.2.2.2.2.2.2.2.2.2.2.2.1 (zz ne (I := ⟨un41 P⟩)).2.2.2.2.2.2.2.2.2.2.2.2.2.2.2.2.2.2.2.2.2.2.2.2.2.2.2.2.2.2.2.2.1 (zz ne (I := ⟨un41 P⟩)).2.2.2.2.2.2.2.2.2.2.2.2.2.2.2.2.2.2.2.2.2.2.2.2.2.2.2.2.2.2.2.2.2.1 (zz ne (I := ⟨un41 P⟩)).2.2.2.2.2.2.2.2.2.2.2.2.2.2.2.2.2.2.2.2.2.2.2.2.2.2.2.2.2.2.2.2.2.2.1 (zz ne (I := ⟨un41 P⟩)).2.2.2.2.2.2.2.2.2.2.2.2.2.2.2.2.2.2.2.2.2.2.2.2.2.2.2.2.2.2.2.2.2.2.2.1 (zz ne (I := ⟨un41 P⟩)).2.2.2.2.2.2.2.2.2.2.2.2.2.2.2.2.2.2.2.2.2.2.2.2.2.2.2.2.2.2.2.2.2.2.2.2.1 (zz ne (I := ⟨un41 P⟩)).2.2.2.2.2.2.2.2.2.2.2.2.2.2.2.2.2.2.2.2.2.2.2.2.2.2.2.2.2.2.2.2.2.2.2.2.2.1 (zz ne (I := ⟨un41 P⟩)).2.2.2.2.2.2.2.2.2.2.2.2.2.2.2.2.2.2.2.2.2.2.2.2.2.2.2.2.2.2.2.2.2.2.2.2.2.2.1 (zz ne (I := ⟨un41 P⟩)).2.2.2.2.2.2.2.2.2.2.2.2.2.2.2.2.2.2.2.2.2.2.2.2.2.2.2.2.2.2.2.2.2.2.2.2.2.2.2.1 (zz ne (I := ⟨un41 P⟩)).2.2.2.2.2.2.2.2.2.2.2.2.2.2.2.2.2.2.2.2.2.2.2.2.2.2.2.2.2.2.2.2.2.2.2.2.2.2.2.2) : ∀ x0 x1 x2 x3 x4 x5 x6 x7 x8 x9 x10 x11 x12 x13 x14 x15 x16 x17 x18 x19 x20 x21 x22 x23 x24 x25 x26 x27 x28 x29 x30 x31 x32 x33 x34 x35 x36 x37 x38 x39 x40, P x0 x1 x2 x3 x4 x5 x6 x7 x8 x9 x10 x11 x12 x13 x14 x15 x16 x17 x18 x19 x20 x21 x22 x23 x24 x25 x26 x27 x28 x29 x30 x31 x32 x33 x34 x35 x36 x37 x38 x39 x40 :=
  fun x0 x1 x2 x3 x4 x5 x6 x7 x8 x9 x10 x11 x12 x13 x14 x15 x16 x17 x18 x19 x20 x21 x22 x23 x24 x25 x26 x27 x28 x29 x30 x31 x32 x33 x34 x35 x36 x37 x38 x39 x40 => zz_all ne (un41 P) h (x0, x1, x2, x3, x4, x5, x6, x7, x8, x9, x10, x11, x12, x13, x14, x15, x16, x17, x18, x19, x20, x21, x22, x23, x24, x25, x26, x27, x28, x29, x30, x31, x32, x33, x34, x35, x36, x37, x38, x39, x40)
def un83 {A0 A1 A2 A3 A4 A5 A6 A7 A8 A9 A10 A11 A12 A13 A14 A15 A16 A17 A18 A19 A20 A21 A22 A23 A24 A25 A26 A27 A28 A29 A30 A31 A32 A33 A34 A35 A36 A37 A38 A39 A40 A41 A42 A43 A44 A45 A46 A47 A48 A49 A50 A51 A52 A53 A54 A55 A56 A57 A58 A59 A60 A61 A62 A63 A64 A65 A66 A67 A68 A69 A70 A71 A72 A73 A74 A75 A76 A77 A78 A79 A80 A81 A82 : Type} (P : A0 → A1 → A2 → A3 → A4 → A5 → A6 → A7 → A8 → A9 → A10 → A11 → A12 → A13 → A14 → A15 → A16 → A17 → A18 → A19 → A20 → A21 → A22 → A23 → A24 → A25 → A26 → A27 → A28 → A29 → A30 → A31 → A32 → A33 → A34 → A35 → A36 → A37 → A38 → A39 → A40 → A41 → A42 → A43 → A44 → A45 → A46 → A47 → A48 → A49 → A50 → A51 → A52 → A53 → A54 → A55 → A56 → A57 → A58 → A59 → A60 → A61 → A62 → A63 → A64 → A65 → A66 → A67 → A68 → A69 → A70 → A71 → A72 → A73 → A74 → A75 → A76 → A77 → A78 → A79 → A80 → A81 → A82 → Prop) : A0 × A1 × A2 × A3 × A4 × A5 × A6 × A7 × A8 × A9 × A10 × A11 × A12 × A13 × A14 × A15 × A16 × A17 × A18 × A19 × A20 × A21 × A22 × A23 × A24 × A25 × A26 × A27 × A28 × A29 × A30 × A31 × A32 × A33 × A34 × A35 × A36 × A37 × A38 × A39 × A40 × A41 × A42 × A43 × A44 × A45 × A46 × A47 × A48 × A49 × A50 × A51 × A52 × A53 × A54 × A55 × A56 × A57 × A58 × A59 × A60 × A61 × A62 × A63 × A64 × A65 × A66 × A67 × A68 × A69 × A70 × A71 × A72 × A73 × A74 × A75 × A76 × A77 × A78 × A79 × A80 × A81 × A82 → Prop := fun x => P x.1 x.2.1 x.2.2.1 x.2.2.2.1 x.2.2.2.2.1 x.2.2.2.2.2.1 x.2.2.2.2.2.2.1 x.2.2.2.2.2.2.2.1 x.2.2.2.2.2.2.2.2.1 x.2.2.2.2.2.2.2.2.2.1 x.2.2.2.2.2.2.2.2.2.2.1 x.2.2.2.2.2.2.2.2.2.2.2.1 x.2.2.2.2.2.2.2.2.2.2.2.2.1 x.2.2.2.2.2.2.2.2.2.2.2.2.2.1 x.2.2.2.2.2.2.2.2.2.2.2.2.2.2.1 x.2.2.2.2.2.2.2.2.2.2.2.2.2.2.2.1 x.2.2.2.2.2.2.2.2.2.2.2.2.2.2.2.2.1 x.2.2.2.2.2.2.2.2.2.2.2.2.2.2.2.2.2.1 x.2.2.2.2.2.2.2.2.2.2.2.2.2.2.2.2.2.2.1 x.2.2.2.2.2.2.2.2.2.2.2.2.2.2.2.2.2.2.2.1 x.2.2.2.2.2.2.2.2.2.2.2.2.2.2.2.2.2.2.2.2.1 x.2.2.2.2.2.2.2.2.2.2.2.2.2.2.2.2.2.2.2.2.2.1 x.2.2.2.2.2.2.2.2.2.2.2.2.2.2.2.2.2.2.2.2.2.2.1 x.2.2.2.2.2.2.2.2.2.2.2.2.2.2.2.2.2.2.2.2.2.2.2.1 x.2.2.2.2.2.2.2.2.2.2.2.2.2.2.2.2.2.2.2.2.2.2.2.2.1 x.2.2.2.2.2.2.2.2.2.2.2.2.2.2.2.2.2.2.2.2.2.2.2.2.2.1 x.2.2.2.2.2.2.2.2.2.2.2.2.2.2.2.2.2.2.2.2.2.2.2.2.2.2.1 x.2.2.2.2.2.2.2.2.2.2.2.2.2.2.2.2.2.2.2.2.2.2.2.2.2.2.2.1 x.2.2.2.2.2.2.2.2.2.2.2.2.2.2.2.2.2.2.2.2.2.2.2.2.2.2.2.2.1 x.2.2.2.2.2.2.2.2.2.2.2.2.2.2.2.2.2.2.2.2.2.2.2.2.2.2.2.2.2.1 x.2.2.2.2.2.2.2.2.2.2.2.2.2.2.2.2.2.2.2.2.2.2.2.2.2.2.2.2.2.2.1 x.2.2.2.2.2.2.2.2.2.2.2.2.2.2.2.2.2.2.2.2.2.2.2.2.2.2.2.2.2.2.2.1 x.2.2.2.2.2.2.2.2.2.2.2.2.2.2.2.2.2.2.2.2.2.2.2.2.2.2.2.2.2.2.2.2.1 x.2.2.2.2.2.2.2.2.2.2.2.2.2.2.2.2.2.2.2.2.2.2.2.2.2.2.2.2.2.2.2.2.2.1 x.2.2.2.2.2.2.2.2.2.2.2.2.2.2.2.2.2.2.2.2.2.2.2.2.2.2.2.2.2.2.2.2.2.2.1 x.2.2.2.2.2.2.2.2.2.2.2.2.2.2.2.2.2.2.2.2.2.2.2.2.2.2.2.2.2.2.2.2.2.2.2.1 x.2.2.2.2.2.2.2.2.2.2.2.2.2.2.2.2.2.2.2.2.2.2.2.2.2.2.2.2.2.2.2.2.2.2.2.2.1 x.2.2.2.2.2.2.2.2.2.2.2.2.2.2.2.2.2.2.2.2.2.2.2.2.2.2.2.2.2.2.2.2.2.2.2.2.2.1 x.2.2.2.2.2.2.2.2.2.2.2.2.2.2.2.2.2.2.2.2.2.2.2.2.2.2.2.2.2.2.2.2.2.2.2.2.2.2.1 x.2.2.2.2.2.2.2.2.2.2.2.2.2.2.2.2.2.2.2.2.2.2.2.2.2.2.2.2.2.2.2.2.2.2.2.2.2.2.2.1 x.2.2.2.2.2.2.2.2.2.2.2.2.2.2.2.2.2.2.2.2.2.2.2.2.2.2.2.2.2.2.2.2.2.2.2.2.2.2.2.2.1 x.2.2.2.2.2.2.2.2.2.2.2.2.2.2.2.2.2.2.2.2.2.2.2.2.2.2.2.2.2.2.2.2.2.2.2.2.2.2.2.2.2.1 x.2.2.2.2.2.2.2.2.2.2.2.2.2.2.2.2.2.2.2.2.2.2.2.2.2.2.2.2.2.2.2.2.2.2.2.2.2.2.2.2.2.2.1 x.2.2.2.2.2.2.2.2.2.2.2.2.2.2.2.2.2.2.2.2.2.2.2.2.2.2.2.2.2.2.2.2.2.2.2.2.2.2.2.2.2.2.2.1 x.2.2.2.2.2.2.2.2.2.2.2.2.2.2.2.2.2.2.2.2.2.2.2.2.2.2.2.2.2.2.2.2.2.2.2.2.2.2.2.2.2.2.2.2.1 x.2.2.2.2.2.2.2.2.2.2.2.2.2.2.2.2.2.2.2.2.2.2.2.2.2.2.2.2.2.2.2.2.2.2.2.2.2.2.2.2.2.2.2.2.2.1 x.2.2.2.2.2.2.2.2.2.2.2.2.2.2.2.2.2.2.2.2.2.2.2.2.2.2.2.2.2.2.2.2.2.2.2.2.2.2.2.2.2.2.2.2.2.2.1 x.2.2.2.2.2.2.2.2.2.2.2.2.2.2.2.2.2.2.2.2.2.2.2.2.2.2.2.2.2.2.2.2.2.2.2.2.2.2.2.2.2.2.2.2.2.2.2.1 x.2.2.2.2.2.2.2.2.2.2.2.2.2.2.2.2.2.2.2.2.2.2.2.2.2.2.2.2.2.2.2.2.2.2.2.2.2.2.2.2.2.2.2.2.2.2.2.2.1 x.2.2.2.2.2.2.2.2.2.2.2.2.2.2.2.2.2.2.2.2.2.2.2.2.2.2.2.2.2.2.2.2.2.2.2.2.2.2.2.2.2.2.2.2.2.2.2.2.2.1 x.2.2.2.2.2.2.2.2.2.2.2.2.2.2.2.2.2.2.2.2.2.2.2.2.2.2.2.2.2.2.2.2.2.2.2.2.2.2.2.2.2.2.2.2.2.2.2.2.2.2.1 x.2.2.2.2.2.2.2.2.2.2.2.2.2.2.2.2.2.2.2.2.2.2.2.2.2.2.2.2.2.2.2.2.2.2.2.2.2.2.2.2.2.2.2.2.2.2.2.2.2.2.2.1 x.2.2.2.2.2.2.2.2.2.2.2.2.2.2.2.2.2.2.2.2.2.2.2.2.2.2.2.2.2.2.2.2.2.2.2.2.2.2.2.2.2.2.2.2.2.2.2.2.2.2.2.2.1 x.2.2.2.2.2.2.2.2.2.2.2.2.2.2.2.2.2.2.2.2.2.2.2.2.2.2.2.2.2.2.2.2.2.2.2.2.2.2.2.2.2.2.2.2.2.2.2.2.2.2.2.2.2.1 x.2.2.2.2.2.2.2.2.2.2.2.2.2.2.2.2.2.2.2.2.2.2.2.2.2.2.2.2.2.2.2.2.2.2.2.2.2.2.2.2.2.2.2.2.2.2.2.2.2.2.2.2.2.2.1 x.2.2.2.2.2.2.2.2.2.2.2.2.2.2.2.2.2.2.2.2.2.2.2.2.2.2.2.2.2.2.2.2.2.2.2.2.2.2.2.2.2.2.2.2.2.2.2.2.2.2.2.2.2.2.2.1 x.2.2.2.2.2.2.2.2.2.2.2.2.2.2.2.2.2.2.2.2.2.2.2.2.2.2.2.2.2.2.2.2.2.2.2.2.2.2.2.2.2.2.2.2.2.2.2.2.2.2.2.2.2.2.2.2.1 x.2.2.2.2.2.2.2.2.2.2.2.2.2.2.2.2.2.2.2.2.2.2.2.2.2.2.2.2.2.2.2.2.2.2.2.2.2.2.2.2.2.2.2.2.2.2.2.2.2.2.2.2.2.2.2.2.2.1 x.2.2.2.2.2.2.2.2.2.2.2.2.2.2.2.2.2.2.2.2.2.2.2.2.2.2.2.2.2.2.2.2.2.2.2.2.2.2.2.2.2.2.2.2.2.2.2.2.2.2.2.2.2.2.2.2.2.2.1 x.2.2.2.2.2.2.2.2.2.2.2.2.2.2.2.2.2.2.2.2.2.2.2.2.2.2.2.2.2.2.2.2.2.2.2.2.2.2.2.2.2.2.2.2.2.2.2.2.2.2.2.2.2.2.2.2.2.2.2.1 x.2.2.2.2.2.2.2.2.2.2.2.2.2.2.2.2.2.2.2.2.2.2.2.2.2.2.2.2.2.2.2.2.2.2.2.2.2.2.2.2.2.2.2.2.2.2.2.2.2.2.2.2.2.2.2.2.2.2.2.2.1 x.2.2.2.2.2.2.2.2.2.2.2.2.2.2.2.2.2.2.2.2.2.2.2.2.2.2.2.2.2.2.2.2.2.2.2.2.2.2.2.2.2.2.2.2.2.2.2.2.2.2.2.2.2.2.2.2.2.2.2.2.2.1 x.2.2.2.2.2.2.2.2.2.2.2.2.2.2.2.2.2.2.2.2.2.2.2.2.2.2.2.2.2.2.2.2.2.2.2.2.2.2.2.2.2.2.2.2.2.2.2.2.2.2.2.2.2.2.2.2.2.2.2.2.2.2.1 x.2.2.2.2.2.2.2.2.2.2.2.2.2.2.2.2.2.2.2.2.2.2.2.2.2.2.2.2.2.2.2.2.2.2.2.2.2.2.2.2.2.2.2.2.2.2.2.2.2.2.2.2.2.2.2.2.2.2.2.2.2.2.2.1 x.2.2.2.2.2.2.2.2.2.2.2.2.2.2.2.2.2.2.2.2.2.2.2.2.2.2.2.2.2.2.2.2.2.2.2.2.2.2.2.2.2.2.2.2.2.2.2.2.2.2.2.2.2.2.2.2.2.2.2.2.2.2.2.2.1 x.2.2.2.2.2.2.2.2.2.2.2.2.2.2.2.2.2.2.2.2.2.2.2.2.2.2.2.2.2.2.2.2.2.2.2.2.2.2.2.2.2.2.2.2.2.2.2.2.2.2.2.2.2.2.2.2.2.2.2.2.2.2.2.2.2.1 x.2.2.2.2.2.2.2.2.2.2.2.2.2.2.2.2.2.2.2.2.2.2.2.2.2.2.2.2.2.2.2.2.2.2.2.2.2.2.2.2.2.2.2.2.2.2.2.2.2.2.2.2.2.2.2.2.2.2.2.2.2.2.2.2.2.2.1 x.2.2.2.2.2.2.2.2.2.2.2.2.2.2.2.2.2.2.2.2.2.2.2.2.2.2.2.2.2.2.2.2.2.2.2.2.2.2.2.2.2.2.2.2.2.2.2.2.2.2.2.2.2.2.2.2.2.2.2.2.2.2.2.2.2.2.2.1 x.2.2.2.2.2.2.2.2.2.2.2.2.2.2.2.2.2.2.2.2.2.2.2.2.2.2.2.2.2.2.2.2.2.2.2.2.2.2.2.2.2.2.2.2.2.2.2.2.2.2.2.2.2.2.2.2.2.2.2.2.2.2.2.2.2.2.2.2.1 x.2.2.2.2.2.2.2.2.2.2.2.2.2.2.2.2.2.2.2.2.2.2.2.2.2.2.2.2.2.2.2.2.2.2.2.2.2.2.2.2.2.2.2.2.2.2.2.2.2.2.2.2.2.2.2.2.2.2.2.2.2.2.2.2.2.2.2.2.2.1 x.2.2.2.2.2.2.2.2.2.2.2.2.2.2.2.2.2.2.2.2.2.2.2.2.2.2.2.2.2.2.2.2.2.2.2.2.2.2.2.2.2.2.2.2.2.2.2.2.2.2.2.2.2.2.2.2.2.2.2.2.2.2.2.2.2.2.2.2.2.2.1 x.2.2.2.2.2.2.2.2.2.2.2.2.2.2.2.2.2.2.2.2.2.2.2.2.2.2.2.2.2.2.2.2.2.2.2.2.2.2.2.2.2.2.2.2.2.2.2.2.2.2.2.2.2.2.2.2.2.2.2.2.2.2.2.2.2.2.2.2.2.2.2.1 x.2.2.2.2.2.2.2.2.2.2.2.2.2.2.2.2.2.2.2.2.2.2.2.2.2.2.2.2.2.2.2.2.2.2.2.2.2.2.2.2.2.2.2.2.2.2.2.2.2.2.2.2.2.2.2.2.2.2.2.2.2.2.2.2.2.2.2.2.2.2.2.2.1 x.2.2.2.2.2.2.2.2.2.2.2.2.2.2.2.2.2.2.2.2.2.2.2.2.2.2.2.2.2.2.2.2.2.2.2.2.2.2.2.2.2.2.2.2.2.2.2.2.2.2.2.2.2.2.2.2.2.2.2.2.2.2.2.2.2.2.2.2.2.2.2.2.2.1 x.2.2.2.2.2.2.2.2.2.2.2.2.2.2.2.2.2.2.2.2.2.2.2.2.2.2.2.2.2.2.2.2.2.2.2.2.2.2.2.2.2.2.2.2.2.2.2.2.2.2.2.2.2.2.2.2.2.2.2.2.2.2.2.2.2.2.2.2.2.2.2.2.2.2.1 x.2.2.2.2.2.2.2.2.2.2.2.2.2.2.2.2.2.2.2.2.2.2.2.2.2.2.2.2.2.2.2.2.2.2.2.2.2.2.2.2.2.2.2.2.2.2.2.2.2.2.2.2.2.2.2.2.2.2.2.2.2.2.2.2.2.2.2.2.2.2.2.2.2.2.2.1 x.2.2.2.2.2.2.2.2.2.2.2.2.2.2.2.2.2.2.2.2.2.2.2.2.2.2.2.2.2.2.2.2.2.2.2.2.2.2.2.2.2.2.2.2.2.2.2.2.2.2.2.2.2.2.2.2.2.2.2.2.2.2.2.2.2.2.2.2.2.2.2.2.2.2.2.2.1 x.2.2.2.2.2.2.2.2.2.2.2.2.2.2.2.2.2.2.2.2.2.2.2.2.2.2.2.2.2.2.2.2.2.2.2.2.2.2.2.2.2.2.2.2.2.2.2.2.2.2.2.2.2.2.2.2.2.2.2.2.2.2.2.2.2.2.2.2.2.2.2.2.2.2.2.2.2.1 x.2.2.2.2.2.2.2.2.2.2.2.2.2.2.2.2.2.2.2.2.2.2.2.2.2.2.2.2.2.2.2.2.2.2.2.2.2.2.2.2.2.2.2.2.2.2.2.2.2.2.2.2.2.2.2.2.2.2.2.2.2.2.2.2.2.2.2.2.2.2.2.2.2.2.2.2.2.2.1 x.2.2.2.2.2.2.2.2.2.2.2.2.2.2.2.2.2.2.2.2.2.2.2.2.2.2.2.2.2.2.2.2.2.2.2.2.2.2.2.2.2.2.2.2.2.2.2.2.2.2.2.2.2.2.2.2.2.2.2.2.2.2.2.2.2.2.2.2.2.2.2.2.2.2.2.2.2.2.2.1 x.2.2.2.2.2.2.2.2.2.2.2.2.2.2.2.2.2.2.2.2.2.2.2.2.2.2.2.2.2.2.2.2.2.2.2.2.2.2.2.2.2.2.2.2.2.2.2.2.2.2.2.2.2.2.2.2.2.2.2.2.2.2.2.2.2.2.2.2.2.2.2.2.2.2.2.2.2.2.2.2.1 x.2.2.2.2.2.2.2.2.2.2.2.2.2.2.2.2.2.2.2.2.2.2.2.2.2.2.2.2.2.2.2.2.2.2.2.2.2.2.2.2.2.2.2.2.2.2.2.2.2.2.2.2.2.2.2.2.2.2.2.2.2.2.2.2.2.2.2.2.2.2.2.2.2.2.2.2.2.2.2.2.2.1 x.2.2.2.2.2.2.2.2.2.2.2.2.2.2.2.2.2.2.2.2.2.2.2.2.2.2.2.2.2.2.2.2.2.2.2.2.2.2.2.2.2.2.2.2.2.2.2.2.2.2.2.2.2.2.2.2.2.2.2.2.2.2.2.2.2.2.2.2.2.2.2.2.2.2.2.2.2.2.2.2.2.2
theorem eps83 {A0 A1 A2 A3 A4 A5 A6 A7 A8 A9 A10 A11 A12 A13 A14 A15 A16 A17 A18 A19 A20 A21 A22 A23 A24 A25 A26 A27 A28 A29 A30 A31 A32 A33 A34 A35 A36 A37 A38 A39 A40 A41 A42 A43 A44 A45 A46 A47 A48 A49 A50 A51 A52 A53 A54 A55 A56 A57 A58 A59 A60 A61 A62 A63 A64 A65 A66 A67 A68 A69 A70 A71 A72 A73 A74 A75 A76 A77 A78 A79 A80 A81 A82 : Type} (ne : Nonempty (A0 × A1 × A2 × A3 × A4 × A5 × A6 × A7 × A8 × A9 × A10 × A11 × A12 × A13 × A14 × A15 × A16 × A17 × A18 × A19 × A20 × A21 × A22 × A23 × A24 × A25 × A26 × A27 × A28 × A29 × A30 × A31 × A32 × A33 × A34 × A35 × A36 × A37 × A38 × A39 × A40 × A41 × A42 × A43 × A44 × A45 × A46 × A47 × A48 × A49 × A50 × A51 × A52 × A53 × A54 × A55 × A56 × A57 × A58 × A59 × A60 × A61 × A62 × A63 × A64 × A65 × A66 × A67 × A68 × A69 × A70 × A71 × A72 × A73 × A74 × A75 × A76 × A77 × A78 × A79 × A80 × A81 × A82)) {P : A0 → A1 → A2 → A3 → A4 → A5 → A6 → A7 → A8 → A9 → A10 → A11 → A12 → A13 → A14 → A15 → A16 → A17 → A18 → A19 → A20 → A21 → A22 → A23 → A24 → A25 → A26 → A27 → A28 → A29 → A30 → A31 → A32 → A33 → A34 → A35 → A36 → A37 → A38 → A39 → A40 → A41 → A42 → A43 → A44 → A45 → A46 → A47 → A48 → A49 → A50 → A51 → A52 → A53 → A54 → A55 → A56 → A57 → A58 → A59 → A60 → A61 → A62 → A63 → A64 → A65 → A66 → A67 → A68 → A69 → A70 → A71 → A72 → A73 → A74 → A75 → A76 → A77 → A78 → A79 → A80 → A81 → A82 → Prop} (h : P (zz ne (I := ⟨un83 P⟩)).1 (zz ne (I := ⟨un83 P⟩)).2.1 (zz ne (I := ⟨un83 P⟩)).2.2.1 (zz ne (I := ⟨un83 P⟩)).2.2.2.1 (zz ne (I := ⟨un83 P⟩)).2.2.2.2.1 (zz ne (I := ⟨un83 P⟩)).2.2.2.2.2.1 (zz ne (I := ⟨un83 P⟩)).2.2.2.2.2.2.1 (zz ne (I := ⟨un83 P⟩)).2.2.2.2.2.2.2.1 (zz ne (I := ⟨un83 P⟩)).2.2.2.2.2.2.2.2.1 (zz ne (I := ⟨un83 P⟩)).2.2.2.2.2.2.2.2.2.1 (zz ne (I := ⟨un83 P⟩)).2.2.2.2.2.2.2.2.2.2.1 (zz ne (I := ⟨un83 P⟩)).2.2.2.2.2.2.2.2.2.2.2.1 (zz ne (I := ⟨un83 P⟩)).2.2.2.2.2.2.2.2.2.2.2.2.1 (zz ne (I := ⟨un83 P⟩)).2.2.2.2.2.2.2.2.2.2.2.2.2.1 (zz ne (I := ⟨un83 P⟩)).2.2.2.2.2.2.2.2.2.2.2.2.2.2.1 (zz ne (I := ⟨un83 P⟩)).2.2.2.2.2.2.2.2.2.2.2.2.2.2.2.1 (zz ne (I := ⟨un83 P⟩)).2.2.2.2.2.2.2.2.2.2.2.2.2.2.2.2.1 (zz ne (I := ⟨un83 P⟩)).2.2.2.2.2.2.2.2.2.2.2.2.2.2.2.2.2.1 (zz ne (I := ⟨un83 P⟩)).2.2.2.2.2.2.2.2.2.2.2.2.2.2.2.2.2.2.1 (zz ne (I := ⟨un83 P⟩)).2.2.2.2.2.2.2.2.2.2.2.2.2.2.2.2.2.2.2.1 (zz ne (I := ⟨un83 P⟩)).2.2.2.2.2.2.2.2.2.2.2.2.2.2.2.2.2.2.2.2.1 (zz ne (I := ⟨un83 P⟩)).2.2.2.2.2.2.2.2.2.2.2.2.2.2.2.2.2.2.2.2.2.1 (zz ne (I := ⟨un83 P⟩)).2.2.2.2.2.2.2.2.2.2.2.2.2.2.2.2.2.2.2.2.2.2.1 (zz ne (I := ⟨un83 P⟩)).2.2.2.2.2.2.2.2.2.2.2.2.2.2.2.2.2.2.2.2.2.2.2.1 (zz ne (I := ⟨un83 P⟩)).2.2.2.2.2.2.2.2.2.2.2.2.2.2.2.2.2.2.2.2.2.2.2.2.1 (zz ne (I := ⟨un83 P⟩)).2.2.2.2.2.2.2.2.2.2.2.2.2.2.2.2.2.2.2.2.2.2.2.2.2.1 (zz ne (I := ⟨un83 P⟩)).2.2.2.2.2.2.2.2.2.2.2.2.2.2.2.2.2.2.2.2.2.2.2.2.2.2.1 (zz ne (I := ⟨un83 P⟩)).2.2.2.2.2.2.2.2.2.2.2.2.2.2.2.2.2.2.2.2.2.2.2.2.2.2.2.1 (zz ne (I := ⟨un83 P⟩)).2.2.2.2.2.2.2.2.2.2.2.2.2.2.2.2.2.2.2.2.2.2.2.2.2.2.2.2.1 (zz ne (I := ⟨un83 P⟩)).2.2.2.2.2.2.2.2.2.2.2.2.2.2.2.2.2.2.2.2.2.2.2.2.2.2.2.2.2.1 (zz ne (I := ⟨un83 P⟩)).2.2.2.2.2.2.2.2.2.2.2.2.2.2.2.2.2.2.2.2.2.2.2.2.2.2.2.2.2.2.1 (zz ne (I := ⟨un83 P⟩)).2.2.2.2.2.2.2.2.2.2.2.2.2.2.2.2.2.2.2.2.2.2.2.2.2.2.2.2.2.2.2.1 (zz ne (I := ⟨un83 P⟩)).2.2.2.2.2.2.2.2.2.2.2.2.2.2.2.2.2.2.2.2.2.2.2.2.2.2.2.2.2.2.2.2.1 (zz ne (I := ⟨un83 P⟩)).2.2.2.2.2.2.2.2.2.2.2.2.2.2.2.2.2.2.2.2.2.2.2.2.2.2.2.2.2.2.2.2.2.1 (zz ne (I := ⟨un83 P⟩)).2.2.2.2.2.2.2.2.2.2.2.2.2.2.2.2.2.2.2.2.2.2.2.2.2.2.2.2.2.2.2.2.2.2.1 (zz ne (I := ⟨un83 P⟩)).2.2.2.2.2.2.2.2.2.2.2.2.2.2.2.2.2.2.2.2.2.2.2.2.2.2.2.2.2.2.2.2.2.2.2.1 (zz ne (I := ⟨un83 P⟩)).2.2.2.2.2.2.2.2.2.2.2.2.2.2.2.2.2.2.2.2.2.2.2.2.2.2.2.2.2.2.2.2.2.2.2.2.1 (zz ne (I := ⟨un83 P⟩)).2.2.2.2.2.2.2.2.2.2.2.2.2.2.2.2.2.2.2.2.2.2.2.2.2.2.2.2.2.2.2.2.2.2.2.2.2.1 (zz ne (I := ⟨un83 P⟩)).2.2.2.2.2.2.2.2.2.2.2.2.2.2.2.2.2.2.2.2.2.2.2.2.2.2.2.2.2.2.2.2.2.2.2.2.2.2.1 (zz ne (I := ⟨un83 P⟩)).2.2.2.2.2.2.2.2.2.2.2.2.2.2.2.2.2.2.2.2.2.2.2.2.2.2.2.2.2.2.2.2.2.2.2.2.2.2.2.1 (zz ne (I := ⟨un83 P⟩)).2.2.2.2.2.2.2.2.2.2.2.2.2.2.2.2.2.2.2.2.2.2.2.2.2.2.2.2.2.2.2.2.2.2.2.2.2.2.2.2.1 (zz ne (I := ⟨un83 P⟩)).2.2.2.2.2.2.2.2.2.2.2.2.2.2.2.2.2.2.2.2.2.2.2.2.2.2.2.2.2.2.2.2.2.2.2.2.2.2.2.2.2.1 (zz ne (I := ⟨un83 P⟩)).2.2.2.2.2.2.2.2.2.2.2.2.2.2.2.2.2.2.2.2.2.2.2.2.2.2.2.2.2.2.2.2.2.2.2.2.2.2.2.2.2.2.1 (zz ne (I := ⟨un83 P⟩)).2.2.2.2.2.2.2.2.2.2.2.2.2.2.2.2.2.2.2.2.2.2.2.2.2.2.2.2.2.2.2.2.2.2.2.2.2.2.2.2.2.2.2.1 (zz ne (I := ⟨un83 P⟩)).2.2.2.2.2.2.2.2.2.2.2.2.2.2.2.2.2.2.2.2.2.2.2.2.2.2.2.2.2.2.2.2.2.2.2.2.2.2.2.2.2.2.2.2.1 (zz ne (I := ⟨un83 P⟩)).2.2.2.2.2.2.2.2.2.2.2.2.2.2.2.2.2.2.2.2.2.2.2.2.2.2.2.2.2.2.2.2.2.2.2.2.2.2.2.2.2.2.2.2.2.1 (zz ne (I := ⟨un83 P⟩)).2.2.2.2.2.2.2.2.2.2.2.2.2.2.2.2.2.2.2.2.2.2.2.2.2.2.2.2.2.2.2.2.2.2.2.2.2.2.2.2.2.2.2.2.2.2.1 (zz ne (I := ⟨un83 P⟩)).2.2.2.2.2.2.2.2.2.2.2.2.2.2.2.2.2.2.2.2.2.2.2.2.2.2.2.2.2.2.2.2.2.2.2.2.2.2.2.2.2.2.2.2.2.2.2.1 (zz ne (I := ⟨un83 P⟩)).2.2.2.2.2.2.2.2.2.2.2.2.2.2.2.2.2.2.2.2.2.2.2.2.2.2.2.2.2.2.2.2.2.2.2.2.2.2.2.2.2.2.2.2.2.2.2.2.1 (zz ne (I := ⟨un83 P⟩)).2.2.2.2.2.2.2.2.2.2.2.2.2.2.2.2.2.2.2.2.2.2.2.2.2.2.2.2.2.2.2.2.2.2.2.2.2.2.2.2.2.2.2.2.2.2.2.2.2.1 (zz ne (I := ⟨un83 P⟩)).2.2.2.2.2.2.2.2.2.2.2.2.2.2.2.2.2.2.2.2.2.2.2.2.2.2.2.2.2.2.2.2.2.2.2.2.2.2.2.2.2.2.2.2.2.2.2.2.2.2.1 (zz ne (I := ⟨un83 P⟩)).2.2.2.2.2.2.2.2.2.2.2.2.2.2.2.2.2.2.2.2.2.2.2.2.2.2.2.2.2.2.2.2.2.2.2.2.2.2.2.2.2.2.2.2.2.2.2.2.2.2.2.1 (zz ne (I := ⟨un83 P⟩)).2.2.2.2.2.2.2.2.2.2.2.2.2.2.2.2.2.2.2.2.2.2.2.2.2.2.2.2.2.2.2.2.2.2.2.2.2.2.2.2.2.2.2.2.2.2.2.2.2.2.2.2.1 (zz ne (I := ⟨un83 P⟩)).2.2.2.2.2.2.2.2.2.2.2.2.2.2.2.2.2.2.2.2.2.2.2.2.2.2.2.2.2.2.2.2.2.2.2.2.2.2.2.2.2.2.2.2.2.2.2.2.2.2.2.2.2.1 (zz ne (I := ⟨un83 P⟩)).2.2.2.2.2.2.2.2.2.2.2.2.2.2.2.2.2.2.2.2.2.2.2.2.2.2.2.2.2.2.2.2.2.2.2.2.2.2.2.2.2.2.2.2.2.2.2.2.2.2.2.2.2.2.1 (zz ne (I := ⟨un83 P⟩)).2.2.2.2.2.2.2.2.2.2.2.2.2.2.2.2.2.2.2.2.2.2.2.2.2.2.2.2.2.2.2.2.2.2.2.2.2.2.2.2.2.2.2.2.2.2.2.2.2.2.2.2.2.2.2.1 (zz ne (I := ⟨un83 P⟩)).2.2.2.2.2.2.2.2.2.2.2.2.2.2.2.2.2.2.2.2.2.2.2.2.2.2.2.2.2.2.2.2.2.2.2.2.2.2.2.2.2.2.2.2.2.2.2.2.2.2.2.2.2.2.2.2.1 (zz ne (I := ⟨un83 P⟩)).2.2.2.2.2.2.2.2.2.2.2.2.2.2.2.2.2.2.2.2.2.2.2.2.2.2.2.2.2.2.2.2.2.2.2.2.2.2.2.2.2.2.2.2.2.2.2.2.2.2.2.2.2.2.2.2.2.1 (zz ne (I := ⟨un83 P⟩)).2.2.2.2.2.2.2.2.2.2.2.2.2.2.2.2.2.2.2.2.2.2.2.2.2.2.2.2.2.2.2.2.2.2.2.2.2.2.2.2.2.2.2.2.2.2.2.2.2.2.2.2.2.2.2.2.2.2.1 (zz ne (I := ⟨un83 P⟩)).2.2.2.2.2.2.2.2.2.2.2.2.2.2.2.2.2.2.2.2.2.2.2.2.2.2.2.2.2.2.2.2.2.2.2.2.2.2.2.2.2.2.2.2.2.2.2.2.2.2.2.2.2.2.2.2.2.2.2.1 (zz ne (I := ⟨un83 P⟩)).2.2.2.2.2.2.2.2.2.2.2.2.2.2.2.2.2.2.2.2.2.2.2.2.2.2.2.2.2.2.2.2.2.2.2.2.2.2.2.2.2.2.2.2.2.2.2.2.2.2.2.2.2.2.2.2.2.2.2.2.1 (zz ne (I := ⟨un83 P⟩)).2.2.2.2.2.2.2.2.2.2.2.2.2.2.2.2.2.2.2.2.2.2.2.2.2.2.2.2.2.2.2.2.2.2.2.2.2.2.2.2.2.2.2.2.2.2.2.2.2.2.2.2.2.2.2.2.2.2.2.2.2.1 (zz ne (I := ⟨un83 P⟩)).2.2.2.2.2.2.2.2.2.2.2.2.2.2.2.2.2.2.2.2.2.2.2.2.2.2.2.2.2.2.2.2.2.2.2.2.2.2.2.2.2.2.2.2.2.2.2.2.2.2.2.2.2.2.2.2.2.2.2.2.2.2.1 (zz ne (I := ⟨un83 P⟩)).2.2.2.2.2.2.2.2.2.2.2.2.2.2.2.2.2.2.2.2.2.2.2.2.2.2.2.2.2.2.2.2.2.2.2.2.2.2.2.2.2.2.2.2.2.2.2.2.2.2.2.2.2.2.2.2.2.2.2.2.2.2.2.1 (zz ne (I := ⟨un83 P⟩)).2.2.2.2.2.2.2.2.2.2.2.2.2.2.2.2.2.2.2.2.2.2.2.2.2.2.2.2.2.2.2.2.2.2.2.2.2.2.2.2.2.2.2.2.2.2.2.2.2.2.2.2.2.2.2.2.2.2.2.2.2.2.2.2.1 (zz ne (I := ⟨un83 P⟩)).2.2.2.2.2.2.2.2.2.2.2.2.2.2.2.2.2.2.2.2.2.2.2.2.2.2.2.2.2.2.2.2.2.2.2.2.2.2.2.2.2.2.2.2.2.2.2.2.2.2.2.2.2.2.2.2.2.2.2.2.2.2.2.2.2.1 (zz ne (I := ⟨un83 P⟩)).2.2.2.2.2.2.2.2.2.2.2.2.2.2.2.2.2.2.2.2.2.2.2.2.2.2.2.2.2.2.2.2.2.2.2.2.2.2.2.2.2.2.2.2.2.2.2.2.2.2.2.2.2.2.2.2.2.2.2.2.2.2.2.2.2.2.1 (zz ne (I := ⟨un83 P⟩)).2.2.2.2.2.2.2.2.2.2.2.2.2.2.2.2.2.2.2.2.2.2.2.2.2.2.2.2.2.2.2.2.2.2.2.2.2.2.2.2.2.2.2.2.2.2.2.2.2.2.2.2.2.2.2.2.2.2.2.2.2.2.2.2.2.2.2.1 (zz ne (I := ⟨un83 P⟩)).2.2.2.2.2.2.2.2.2.2.2.2.2.2.2.2.2.2.2.2.2.2.2.2.2.2.2.2.2.2.2.2.2.2.2.2.2.2.2.2.2.2.2.2.2.2.2.2.2.2.2.2.2.2.2.2.2.2.2.2.2.2.2.2.2.2.2.2.1 (zz ne (I := ⟨un83 P⟩)).2.2.2.2.2.2.2.2.2.2.2.2.2.2.2.2.2.2.2.2.2.2.2.2.2.2.2.2.2.2.2.2.2.2.2.2.2.2.2.2.2.2.2.2.2.2.2.2.2.2.2.2.2.2.2.2.2.2.2.2.2.2.2.2.2.2.2.2.2.1 (zz ne (I := ⟨un83 P⟩)).2.2.2.2.2.2.2.2.2.2.2.2.2.2.2.2.2.2.2.2.2.2.2.2.2.2.2.2.2.2.2.2.2.2.2.2.2.2.2.2.2.2.2.2.2.2.2.2.2.2.2.2.2.2.2.2.2.2.2.2.2.2.2.2.2.2.2.2.2.2.1 (zz ne (I := ⟨un83 P⟩)).2.2.2.2.2.2.2.2.2.2.2.2.2.2.2.2.2.2.2.2.2.2.2.2.2.2.2.2.2.2.2.2.2.2.2.2.2.2.2.2.2.2.2.2.2.2.2.2.2.2.2.2.2.2.2.2.2.2.2.2.2.2.2.2.2.2.2.2.2.2.2.1 (zz ne (I := ⟨un83 P⟩)).2.2.2.2.2.2.2.2.2.2.2.2.2.2.2.2.2.2.2.2.2.2.2.2.2.2.2.2.2.2.2.2.2.2.2.2.2.2.2.2.2.2.2.2.2.2.2.2.2.2.2.2.2.2.2.2.2.2.2.2.2.2.2.2.2.2.2.2.2.2.2.2.1 (zz ne (I := ⟨un83 P⟩)).2.2.2.2.2.2.2.2.2.2.2.2.2.2.2.2.2.2.2.2.2.2.2.2.2.2.2.2.2.2.2.2.2.2.2.2.2.2.2.2.2.2.2.2.2.2.2.2.2.2.2.2.2.2.2.2.2.2.2.2.2.2.2.2.2.2.2.2.2.2.2.2.2.1 (zz ne (I := ⟨un83 P⟩)).2.2.2.2.2.2.2.2.2.2.2.2.2.2.2.2.2.2.2.2.2.2.2.2.2.2.2.2.2.2.2.2.2.2.2.2.2.2.2.2.2.2.2.2.2.2.2.2.2.2.2.2.2.2.2.2.2.2.2.2.2.2.2.2.2.2.2.2.2.2.2.2.2.2.1 (zz ne (I := ⟨un83 P⟩)).2.2.2.2.2.2.2.2.2.2.2.2.2.2.2.2.2.2.2.2.2.2.2.2.2.2.2.2.2.2.2.2.2.2.2.2.2.2.2.2.2.2.2.2.2.2.2.2.2.2.2.2.2.2.2.2.2.2.2.2.2.2.2.2.2.2.2.2.2.2.2.2.2.2.2.1 (zz ne (I := ⟨un83 P⟩)).2.2.2.2.2.2.2.2.2.2.2.2.2.2.2.2.2.2.2.2.2.2.2.2.2.2.2.2.2.2.2.2.2.2.2.2.2.2.2.2.2.2.2.2.2.2.2.2.2.2.2.2.2.2.2.2.2.2.2.2.2.2.2.2.2.2.2.2.2.2.2.2.2.2.2.2.1 (zz ne (I := ⟨un83 P⟩)).2.2.2.2.2.2.2.2.2.2.2.2.2.2.2.2.2.2.2.2.2.2.2.2.2.2.2.2.2.2.2.2.2.2.2.2.2.2.2.2.2.2.2.2.2.2.2.2.2.2.2.2.2.2.2.2.2.2.2.2.2.2.2.2.2.2.2.2.2.2.2.2.2.2.2.2.2.1 (zz ne (I := ⟨un83 P⟩)).2.2.2.2.2.2.2.2.2.2.2.2.2.2.2.2.2.2.2.2.2.2.2.2.2.2.2.2.2.2.2.2.2.2.2.2.2.2.2.2.2.2.2.2.2.2.2.2.2.2.2.2.2.2.2.2.2.2.2.2.2.2.2.2.2.2.2.2.2.2.2.2.2.2.2.2.2.2.1 (zz ne (I := ⟨un83 P⟩)).2.2.2.2.2.2.2.2.2.2.2.2.2.2.2.2.2.2.2.2.2.2.2.2.2.2.2.2.2.2.2.2.2.2.2.2.2.2.2.2.2.2.2.2.2.2.2.2.2.2.2.2.2.2.2.2.2.2.2.2.2.2.2.2.2.2.2.2.2.2.2.2.2.2.2.2.2.2.2.1 (zz ne (I := ⟨un83 P⟩)).2.2.2.2.2.2.2.2.2.2.2.2.2.2.2.2.2.2.2.2.2.2.2.2.2.2.2.2.2.2.2.2.2.2.2.2.2.2.2.2.2.2.2.2.2.2.2.2.2.2.2.2.2.2.2.2.2.2.2.2.2.2.2.2.2.2.2.2.2.2.2.2.2.2.2.2.2.2.2.2.1 (zz ne (I := ⟨un83 P⟩)).2.2.2.2.2.2.2.2.2.2.2.2.2.2.2.2.2.2.2.2.2.2.2.2.2.2.2.2.2.2.2.2.2.2.2.2.2.2.2.2.2.2.2.2.2.2.2.2.2.2.2.2.2.2.2.2.2.2.2.2.2.2.2.2.2.2.2.2.2.2.2.2.2.2.2.2.2.2.2.2.2.1 (zz ne (I := ⟨un83 P⟩)).2.2.2.2.2.2.2.2.2.2.2.2.2.2.2.2.2.2.2.2.2.2.2.2.2.2.2.2.2.2.2.2.2.2.2.2.2.2.2.2.2.2.2.2.2.2.2.2.2.2.2.2.2.2.2.2.2.2.2.2.2.2.2.2.2.2.2.2.2.2.2.2.2.2.2.2.2.2.2.2.2.2) : ∀ x0 x1 x2 x3 x4 x5 x6 x7 x8 x9 x10 x11 x12 x13 x14 x15 x16 x17 x18 x19 x20 x21 x22 x23 x24 x25 x26 x27 x28 x29 x30 x31 x32 x33 x34 x35 x36 x37 x38 x39 x40 x41 x42 x43 x44 x45 x46 x47 x48 x49 x50 x51 x52 x53 x54 x55 x56 x57 x58 x59 x60 x61 x62 x63 x64 x65 x66 x67 x68 x69 x70 x71 x72 x73 x74 x75 x76 x77 x78 x79 x80 x81 x82, P x0 x1 x2 x3 x4 x5 x6 x7 x8 x9 x10 x11 x12 x13 x14 x15 x16 x17 x18 x19 x20 x21 x22 x23 x24 x25 x26 x27 x28 x29 x30 x31 x32 x33 x34 x35 x36 x37 x38 x39 x40 x41 x42 x43 x44 x45 x46 x47 x48 x49 x50 x51 x52 x53 x54 x55 x56 x57 x58 x59 x60 x61 x62 x63 x64 x65 x66 x67 x68 x69 x70 x71 x72 x73 x74 x75 x76 x77 x78 x79 x80 x81 x82 :=
  fun x0 x1 x2 x3 x4 x5 x6 x7 x8 x9 x10 x11 x12 x13 x14 x15 x16 x17 x18 x19 x20 x21 x22 x23 x24 x25 x26 x27 x28 x29 x30 x31 x32 x33 x34 x35 x36 x37 x38 x39 x40 x41 x42 x43 x44 x45 x46 x47 x48 x49 x50 x51 x52 x53 x54 x55 x56 x57 x58 x59 x60 x61 x62 x63 x64 x65 x66 x67 x68 x69 x70 x71 x72 x73 x74 x75 x76 x77 x78 x79 x80 x81 x82 => zz_all ne (un83 P) h (x0, x1, x2, x3, x4, x5, x6, x7, x8, x9, x10, x11, x12, x13, x14, x15, x16, x17, x18, x19, x20, x21, x22, x23, x24, x25, x26, x27, x28, x29, x30, x31, x32, x33, x34, x35, x36, x37, x38, x39, x40, x41, x42, x43, x44, x45, x46, x47, x48, x49, x50, x51, x52, x53, x54, x55, x56, x57, x58, x59, x60, x61, x62, x63, x64, x65, x66, x67, x68, x69, x70, x71, x72, x73, x74, x75, x76, x77, x78, x79, x80, x81, x82)
end Mine
end PartEp
theorem Mine.nb {a b : Nat} (h : Nat.ble a b = true) : a ≤ b := Nat.le_of_ble_eq_true h
section PartFw
open PySem PySem.W PySem.Calls PyProof.Rows
set_option Elab.async false
set_option maxRecDepth 100000
set_option maxHeartbeats 400000
namespace Mine
noncomputable abbrev pp : Program := PySem.Challenge.rw_on0348_01.row.prog
abbrev AA (dp un : Nat) (env : Env) (outer : List Env) : Around := { handled := none, depth := dp, frames := some (env :: outer), guards := none, units := un }

theorem codeAny_weaken {M : Model} {A A' : Around} {c : Code} {R : Result → Shared → Prop} {s : Shared} (hh : A.handled = A'.handled) (hd : A.depth ≤ A'.depth) (hf : ∀ l, A'.frames = some l → A.frames = some l)
    (hg : ∀ l, A'.guards = some l → A.guards = some l) (hu : A.units ≤ A'.units) (h : codeAny M A' c R s) : codeAny M A c R s :=
  fun Γ p hc hΓ => h Γ p hc ⟨hΓ.1.trans hh, Nat.le_trans hΓ.2.1 hd, fun l e => hΓ.2.2.1 l (hf l e), fun l e => hΓ.2.2.2.1 l (hg l e), Nat.le_trans hΓ.2.2.2.2 hu⟩

/-- A contract: f called with vs upon the objects of pre ends in a value and objects that post tells of; all else that g bears stays. -/
def Sp (w : World) (dp un : Nat) (f : Addr) (vs : List Value) (pre : List (Addr × Obj)) (post : Value → List (Addr × Obj) → Prop) : Prop :=
  ∀ (env : Env) (outer : List Env) (base g : Heap) (mean : ExcName → Option Value) (mg mb : Str → Option Value) (s : Shared) (R : Result → Shared → Prop),
    Below (AA dp un env outer) base (env :: outer) g → (K w.params).In g → Top qv (looseW qv loose) mean mg mb g →
    (∀ b o, g.get? b = some o → s.heap.get? b = some o) → g.objs.size ≤ s.heap.objs.size →
    (∀ p ∈ pre, s.heap.get? p.1 = some p.2 ∧ g.get? p.1 = none) → (pre.map (·.1)).Nodup →
    (∀ v news' h' tk', post v news' → (∀ b o, g.get? b = some o → h'.get? b = some o) → (∀ p ∈ news', h'.get? p.1 = some p.2 ∧ g.get? p.1 = none) → (news'.map (·.1)).Nodup →
      R (.ok (.ret v)) { s with heap := h', toks := tk' }) →
    codeAny (model pp w) (AA dp un env outer) (.call (.ref f) ⟨vs, []⟩) R s

/-- the first list stands in the second; the third is what is left -/
def Pick {α : Type} (ps l r : List α) : Prop := (ps ++ r).Perm l
theorem Pick.perm {α : Type} {ps l r : List α} (h : Pick ps l r) : (ps ++ r).Perm l := h
theorem Pick.take {α : Type} {p : α} {l r : List α} (h : Pick [p] l r) : (p :: r).Perm l := h
/-- what is left is not told -/
def Sel {α : Type} (ps l : List α) : Prop := ∃ r, Pick ps l r
/-- by places -/
noncomputable def tkK {α β : Type} : Nat → List α → (α → List α → β) → β → β
  | _, [], _, d => d
  | 0, p :: r, k, _ => k p r
  | n + 1, q :: r, k, d => tkK n r (fun p r' => k p (q :: r')) d
noncomputable def pkK {α β : Type} : List Nat → List α → (List α → List α → β) → β → β
  | [], l, k, _ => k [] l
  | i :: is, l, k, d => tkK i l (fun p l' => pkK is l' (fun ps r => k (p :: ps) r) d) d
theorem tkK_spec {α β : Type} {d : β} (l : List α) : ∀ (i : Nat) (k : α → List α → β), tkK i l k d = d ∨ ∃ p r, (p :: r).Perm l ∧ tkK i l k d = k p r := by
  induction l with
  | nil => intro i k; cases i <;> exact .inl rfl
  | cons q l ih =>
    intro i k
    cases i with
    | zero => exact .inr ⟨q, l, .refl _, rfl⟩
    | succ i =>
      refine (ih i _).imp id fun h => ?_
      obtain ⟨p, r, T, e⟩ := h
      exact ⟨p, q :: r, (List.Perm.swap ..).trans (T.cons q), e⟩
theorem pkK_spec {α β : Type} {d : β} (is : List Nat) : ∀ (l : List α) (k : List α → List α → β), pkK is l k d = d ∨ ∃ p r, Pick p l r ∧ pkK is l k d = k p r := by
  induction is with
  | nil => exact fun l _ => .inr ⟨[], l, .refl _, rfl⟩
  | cons i is ih =>
    intro l k
    refine (tkK_spec l i _).elim .inl fun h => ?_
    obtain ⟨p, r, T, e⟩ := h
    refine (ih r _).imp e.trans fun h => ?_
    obtain ⟨ps, r', P, e'⟩ := h
    exact ⟨p :: ps, r', (P.cons p).trans T, e.trans e'⟩
theorem Pick.ofI {α : Type} {ps l r : List α} (is : List Nat) (h : pkK is l (fun a b => some (a, b)) none = some (ps, r)) : Pick ps l r := by
  rcases pkK_spec (d := none) is l fun a b => some (a, b) with e | e
  · cases e.symm.trans h
  · obtain ⟨_, _, P, e⟩ := e; cases e.symm.trans h; exact P
theorem Sel.ofI {α : Type} {ps l : List α} (is : List Nat) (h : pkK is l (fun a _ => some a) none = some ps) : Sel ps l := by
  rcases pkK_spec (d := none) is l fun a _ => some a with e | e
  · cases e.symm.trans h
  · obtain ⟨_, _, P, e⟩ := e; cases e.symm.trans h; exact ⟨_, P⟩
inductive TakeN {α : Type} (p : α) (i : Nat) (l r : List α) : Prop where
  | mk
inductive PickN {α : Type} (is : List Nat) (ps l r : List α) : Prop where
  | mk
theorem TakeN.here {α : Type} {p : α} {r : List α} : TakeN p 0 (p :: r) r := ⟨⟩
theorem TakeN.there {α : Type} {p q : α} {n : Nat} {r r' : List α} (_ : TakeN p n r r') : TakeN p (n + 1) (q :: r) (q :: r') := ⟨⟩
theorem PickN.nil {α : Type} {l : List α} : PickN [] [] l l := ⟨⟩
theorem PickN.cons {α : Type} {i : Nat} {is : List Nat} {p : α} {ps all all' rest : List α} (_ : TakeN p i all all') (_ : PickN is ps all' rest) : PickN (i :: is) (p :: ps) all rest := ⟨⟩
noncomputable def atI {α : Type} : Nat → List α → Option α
  | _, [] => none
  | 0, p :: _ => some p
  | n + 1, _ :: r => atI n r
theorem memI {α : Type} {p : α} {l : List α} : ∀ (i : Nat), atI i l = some p → p ∈ l := by
  induction l with
  | nil => intro i h; cases i <;> cases h
  | cons q l ih =>
    intro i h
    cases i with
    | zero => cases h; exact List.mem_cons_self
    | succ i => exact List.mem_cons_of_mem _ (ih i h)
def PickGo {α : Type} (is : List Nat) (ps l r : List α) : Prop := PickN is ps l r → pkK is l (fun a b => some (a, b)) none = some (ps, r)
def SelGo {α : Type} (is : List Nat) (ps l r : List α) : Prop := PickN is ps l r → pkK is l (fun a _ => some a) none = some ps
def MemGo {α : Type} (i : Nat) (p : α) (l r : List α) : Prop := TakeN p i l r → atI i l = some p

theorem Sp.useCode {w : World} {dp un : Nat} {f : Addr} {vs : List Value} {pre all rest : List (Addr × Obj)} {post : Value → List (Addr × Obj) → Prop} {A₀ A : Around} {base h₀ : Heap} {outer : List Env} {env : Env} {L : Addr} {m : Str → Option Value}
    {mean : ExcName → Option Value} {mg mb : Str → Option Value} {s : Shared} {R : Result → Shared → Prop}
    (C : Sp w dp un f vs pre post) (B : Below A₀ base outer h₀) (F : Fr h₀ L s.heap m) (X : (K w.params).In h₀) (N : News h₀ L s.heap all) (T : Top qv (looseW qv loose) mean mg mb h₀)
    (hA : A.frames = some (env :: outer)) (hf : env.frame = some L) (hke : env.scope.kind = .function) (hh : A.handled = none) (hd : A.depth ≤ dp) (hu : A.units ≤ un)
    (P : Pick pre all rest) (ND : (all.map (·.1)).Nodup)
    (ret : ∀ v news' h' tk', post v news' → Fr h₀ L h' m → News h₀ L h' (news' ++ rest) → ((news' ++ rest).map (·.1)).Nodup → R (.ok (.ret v)) { s with heap := h', toks := tk' }) :
    codeAny (model pp w) A (.call (.ref f) ⟨vs, []⟩) R s := by
  have hperm := P.perm
  have ND' : ((pre ++ rest).map (·.1)).Nodup := (hperm.map _).nodup_iff.mpr ND
  have Npre : News h₀ L s.heap pre := fun p hp => N p (hperm.mem_iff.mp (List.mem_append_left _ hp))
  have Nrest : News h₀ L s.heap rest := fun p hp => N p (hperm.mem_iff.mp (List.mem_append_right _ hp))
  rw [List.map_append, List.nodup_append] at ND'
  obtain ⟨ndp, ndr, dis⟩ := ND'
  have nm : ∀ b o, h₀.get? b = some o → b ∉ pre.map (·.1) := fun b o e q => by
    obtain ⟨p, hp, rfl⟩ := List.mem_map.mp q
    rw [(Npre p hp).2.2] at e; cases e
  have st : h₀.StaysIn (hideAll s.heap (pre.map (·.1))) := fun b o e => hideAll_get _ (F.keep b o e) (nm b o e)
  obtain ⟨oL, es, ep, hL, hLd, hLk, hLf⟩ := F.ns
  have nL : L ∉ pre.map (·.1) := fun q => by
    obtain ⟨p, hp, e⟩ := List.mem_map.mp q
    exact (Npre p hp).2.1 e
  have hLg := hideAll_get (pre.map (·.1)) hL nL
  have B₁ := pushX B F hf hke
  have BG : Below (AA dp un env outer) base (env :: outer) (hideAll s.heap (pre.map (·.1))) := ⟨rfl, fun b o e => st b o (B.stays b o e), funFrames_hideAll B₁.frames fun env' he b hb hf' => by
    cases he with
    | head => exact nL ((Option.some.inj (hf.symm.trans hf') : L = b) ▸ hb)
    | tail _ he =>
      obtain ⟨L₁, o₁, hf₁, ho₁⟩ := funFrames_in B.frames env' he
      rw [hf₁] at hf'
      exact nm L₁ o₁ ho₁ ((Option.some.inj hf' : L₁ = b) ▸ hb)⟩
  have restG : ∀ q ∈ rest, (hideAll s.heap (pre.map (·.1))).get? q.1 = some q.2 := fun q hq => by
    refine hideAll_get _ (Nrest q hq).1 fun hm => ?_
    exact dis _ hm _ (List.mem_map_of_mem hq) rfl
  refine codeAny_weaken (A' := AA dp un env outer) hh hd (fun l e => by rw [hA]; exact e) (fun l e => nomatch e) hu ?_
  have g1 : ∀ b o, (hideAll s.heap (pre.map (·.1))).get? b = some o → s.heap.get? b = some o := fun b o e => of_hideAll _ e
  have g2 : (hideAll s.heap (pre.map (·.1))).objs.size ≤ s.heap.objs.size := Nat.le_of_eq (hideAll_size _ _)
  have g3 : ∀ p ∈ pre, s.heap.get? p.1 = some p.2 ∧ (hideAll s.heap (pre.map (·.1))).get? p.1 = none := fun p hp => ⟨(Npre p hp).1, hideAll_none _ (List.mem_map_of_mem hp)⟩
  refine C env outer base _ mean mg mb s R BG (X.keeps st) (T.keeps st) g1 g2 g3 ndp fun v news' h' tk' hpost hk hn hnd => ?_
  refine ret v news' h' tk' hpost ⟨⟨oL, es, ep, hk L oL hLg, hLd, hLk, hLf⟩, fun b o e => hk b o (st b o e), F.above⟩ (fun p hp => ?_) ?_
  · rcases List.mem_append.mp hp with hp | hp
    · refine ⟨(hn p hp).1, fun q => ?_, ?_⟩
      · have := (hn p hp).2; rw [q, hLg] at this; cases this
      · cases q : h₀.get? p.1 with
        | none => rfl
        | some o => have := (hn p hp).2; rw [st _ _ q] at this; cases this
    · exact ⟨hk _ _ (restG p hp), (Nrest p hp).2⟩
  · rw [List.map_append, List.nodup_append]
    refine ⟨hnd, ndr, fun a ha b hb e => ?_⟩
    obtain ⟨p, hp, rfl⟩ := List.mem_map.mp ha
    obtain ⟨q, hq, rfl⟩ := List.mem_map.mp hb
    have h1 := (hn p hp).2
    rw [e, restG q hq] at h1
    cases h1

theorem Sp.use {w : World} {dp un : Nat} {f : Addr} {vs : List Value} {pre all rest : List (Addr × Obj)} {post : Value → List (Addr × Obj) → Prop} {A₀ A : Around} {base h₀ : Heap} {outer : List Env} {env : Env} {L : Addr} {m : Str → Option Value}
    {mean : ExcName → Option Value} {mg mb : Str → Option Value} {s : Shared} {Q E : Value → Shared → Prop}
    (C : Sp w dp un f vs pre post) (B : Below A₀ base outer h₀) (F : Fr h₀ L s.heap m) (X : (K w.params).In h₀) (N : News h₀ L s.heap all) (T : Top qv (looseW qv loose) mean mg mb h₀)
    (hA : A.frames = some (env :: outer)) (hf : env.frame = some L) (hke : env.scope.kind = .function) (hh : A.handled = none) (hd : A.depth ≤ dp) (hu : A.units ≤ un)
    (P : Pick pre all rest) (ND : (all.map (·.1)).Nodup)
    (ret : ∀ v news' h' tk', post v news' → Fr h₀ L h' m → News h₀ L h' (news' ++ rest) → ((news' ++ rest).map (·.1)).Nodup → Q v { s with heap := h', toks := tk' }) :
    wpAny (model pp w) A (call (.ref f) vs) Q E s :=
  wpAny_call (C.useCode B F X N T hA hf hke hh hd hu P ND fun v news' h' tk' a b c d => ret v news' h' tk' a b c d)

/-- the end of a contract's walk -/
def SpEnd (g : Heap) (L' : Addr) (R : Result → Shared → Prop) (v : Value) (s' : Shared) : Prop := R (.ok (.ret v)) s'

theorem Sp.enter {w : World} {dp un : Nat} {f : Addr} {vs : List Value} {pre : List (Addr × Obj)} {post : Value → List (Addr × Obj) → Prop}
    {name qual : Str} {params : Arguments} {body : List Stmt} {scope : Scope} {dV kV doc pm cdv ct oc : Value} {an od : Option Addr} {osl : Array (Option Value)} {binds : List (Str × Value)}
    (ho : (K w.params).lookup f = some ⟨oc, od, .func (fnOf name qual params body scope dV kV doc pm an cdv ct), osl⟩) (hcd : codeIn (K w.params) cdv qual = true) (hroom : dp < recursionLimit)
    (hbind : ∀ s : Shared, (K w.params).In s.heap → BindsTo s (fnOf name qual params body scope dV kV doc pm an cdv ct) ⟨vs, []⟩ binds) (hloc : ∀ y ∈ binds, scope.names.lookup y.1 = some .local)
    (h : ∀ (env : Env) (outer : List Env) (base g : Heap) (mean : ExcName → Option Value) (mg mb : Str → Option Value) (L' : Addr) (h₁ : Heap) (s : Shared) (Q : Value → Shared → Prop) (E : Value → Shared → Prop),
      Below (AA dp un env outer) base (env :: outer) g → (K w.params).In g → Top qv (looseW qv loose) mean mg mb g → Fr g L' h₁ (fun y => binds.reverse.lookup y) → News g L' h₁ pre → (pre.map (·.1)).Nodup →
      (∀ v news' h' tk' m', post v news' → Fr g L' h' m' → News g L' h' news' → (news'.map (·.1)).Nodup → Q v { s with heap := h', toks := tk' }) →
      wpAny (model pp w) ((AA dp un env outer).deeper (envOf qual scope L' f cdv)) (execs body (envOf qual scope L' f cdv)) (fun fl s' => Q (match fl with | .ret v => v | _ => .none) s')
        (fun e s' => wpAny (model pp w) ((AA dp un env outer).deeper (envOf qual scope L' f cdv)) (leaving (envOf qual scope L' f cdv) e) (fun _ s'' => E e s'') (fun e' s'' => E e' s'') s')
        { s with heap := h₁, toks := s.toks + binds.length })
    (hco : scope.isCoroutine = false := by rfl) (hgen : scope.isGenerator = false := by rfl) (hk : scope.kind = .function := by rfl) (hcell : ∀ x ∈ scope.names, x.2 ≠ .cell := by decide) :
    Sp w dp un f vs pre post := by
  intro env outer base g mean mg mb s R B X T keep size hpre nd ret
  have X' : (K w.params).In s.heap := X.keeps keep
  refine codeAny_call_def (fd := fnOf name qual params body scope dV kV doc pm an cdv ct) (body := body) (binds := binds) hroom (X' _ _ ho) rfl (T.nolimit.keeps keep) (codeRec_of X' hcd) rfl (hbind s X') hcell hloc (fun h₁ hns hk₁ => ?_) hco hgen hk
  refine wpAny_mono (h env outer base g mean mg mb s.heap.objs.size h₁ s (fun v s' => R (.ok (.ret v)) s') (fun e s' => R (.error e) s') B X T ⟨hns, fun b o e => hk₁ b o (keep b o e), size⟩
    (fun p hp => ⟨hk₁ _ _ (hpre p hp).1, Nat.ne_of_lt (Heap.lt_size (hpre p hp).1), (hpre p hp).2⟩) nd fun v news' h' tk' m' hpost F' N' nd' => ?_) (fun _ _ y => y) fun _ _ y => y
  exact ret v news' h' tk' hpost F'.keep (fun p hp => ⟨(N' p hp).1, (N' p hp).2.2⟩) nd'
end Mine
end PartFw
section PartNd
open PySem PySem.W PySem.Calls PyProof.Rows
set_option Elab.async false
set_option maxRecDepth 100000
set_option maxHeartbeats 400000
namespace Mine
theorem mapc {p : Addr × Obj} {l : List (Addr × Obj)} : List.map (fun x : Addr × Obj => x.1) (p :: l) = p.1 :: List.map (fun x : Addr × Obj => x.1) l := rfl
theorem mapn : List.map (fun x : Addr × Obj => x.1) [] = [] := rfl
theorem nd_pick {pre all : List (Addr × Obj)} (nd : (all.map (·.1)).Nodup) (P : Sel pre all) : (pre.map (·.1)).Nodup := by
  obtain ⟨rest, P⟩ := P
  have h := (P.perm.map (·.1)).nodup_iff.mpr nd
  rw [List.map_append] at h
  exact (List.nodup_append.mp h).1
theorem nd_pickA {pre all : List Addr} (nd : all.Nodup) (P : Sel pre all) : pre.Nodup :=
  P.elim fun _ P => (List.nodup_append.mp (P.perm.nodup_iff.mpr nd)).1
theorem nd_ne {all : List (Addr × Obj)} {a b : Nat} {o o' : Obj} (nd : (all.map (·.1)).Nodup) (P : Sel [(a, o), (b, o')] all) : @Ne Nat a b := by
  have h := nd_pick nd P
  rw [List.map_cons, List.nodup_cons] at h
  exact fun e => h.1 (by rw [List.map_cons]; exact e ▸ List.mem_cons_self)
/-- less may be told of what is left -/
theorem Sp.sub {w : World} {dp un : Nat} {f : Addr} {vs : List Value} {pre : List (Addr × Obj)} {post post' : Value → List (Addr × Obj) → Prop} (C : Sp w dp un f vs pre post)
    (h : ∀ v nl, post v nl → ∃ nl' rest, Pick nl' nl rest ∧ post' v nl') : Sp w dp un f vs pre post' :=
  fun env outer base g mean mg mb s R B X T k sz hp nd r => C env outer base g mean mg mb s R B X T k sz hp nd fun v n h' t p hk hn hnd => by
    obtain ⟨nl', rest, P, hq⟩ := h v n p
    exact r v nl' h' t hq hk (fun p hp => hn p (P.perm.mem_iff.mp (List.mem_append_left _ hp))) (nd_pick hnd ⟨_, P⟩)
/-- a handle on a thing: its name stands in the type -/
inductive Hd {A : Type} (x : A) : Prop where
  | mk
@[reducible] noncomputable def Hd.x {A : Type} {x : A} (_ : Hd x) : A := x
theorem frAt {g h : Heap} {m : PySem.Str → Option Value} {L L' : Addr} (_ : Hd L') (F : Fr g L h m) (e : L = L') : Fr g L' h m := e ▸ F
theorem newsAt {g h : Heap} {ns : List (Addr × Obj)} {L L' : Addr} (_ : Hd L') (N : News g L h ns) (e : L = L') : News g L' h ns := e ▸ N
def NN (a b : Nat) : Prop := a ≠ b
theorem nnl {a b c : Nat} {all : List (Addr × Obj)} {o o' : Obj} (_ : NN a b) (nd : (all.map (·.1)).Nodup) (P : Sel [(a, o), (c, o')] all) : NN a c := nd_ne nd P
theorem NN.ne {a b : Nat} (h : NN a b) : a ≠ b := h
theorem NN.ne' {a b : Nat} (h : NN a b) : b ≠ a := fun e => h e.symm
theorem nij {l : List Addr} (nd : l.Nodup) (i j : Nat) {a b : Addr} : Nat.blt i j = true → atI i l = some a → atI j l = some b → NN a b := by
  induction nd generalizing i j with
  | nil => intro _ h; cases i <;> cases h
  | cons n _ ih =>
    intro h ha hb
    cases j with
    | zero => cases i <;> cases h
    | succ j =>
      cases i with
      | zero => cases ha; exact n b (memI j hb)
      | succ i => exact ih i j h ha hb
theorem atMap {l : List (Addr × Obj)} {a : Addr} {o : Obj} : ∀ (i : Nat), atI i l = some (a, o) → atI i (l.map (·.1)) = some a := by
  induction l with
  | nil => intro i h; cases i <;> cases h
  | cons p l ih =>
    intro i h
    cases i with
    | zero => cases h; rfl
    | succ i => exact ih i h
theorem nijp {l : List (Addr × Obj)} (nd : (l.map (·.1)).Nodup) (i j : Nat) {a b : Addr} {o o' : Obj} (h : Nat.blt i j = true) (ha : atI i l = some (a, o)) (hb : atI j l = some (b, o')) : NN a b :=
  nij nd i j h (atMap i ha) (atMap j hb)
inductive NN2 (a0 a1 : Addr) : Prop where
  | mk (n01 : NN a0 a1) : NN2 a0 a1
theorem nn2 {a0 a1 : Addr} {o0 o1 : Obj} (nd : (List.map (fun x : Addr × Obj => x.1) [(a0, o0), (a1, o1)]).Nodup) : NN2 a0 a1 := by
  exact ⟨nij nd 0 1 rfl rfl rfl⟩
inductive NN3 (a0 a1 a2 : Addr) : Prop where
  | mk (n01 : NN a0 a1) (n02 : NN a0 a2) (n12 : NN a1 a2) : NN3 a0 a1 a2
theorem nn3 {a0 a1 a2 : Addr} {o0 o1 o2 : Obj} (nd : (List.map (fun x : Addr × Obj => x.1) [(a0, o0), (a1, o1), (a2, o2)]).Nodup) : NN3 a0 a1 a2 := by
  exact ⟨nij nd 0 1 rfl rfl rfl, nij nd 0 2 rfl rfl rfl, nij nd 1 2 rfl rfl rfl⟩
inductive NN4 (a0 a1 a2 a3 : Addr) : Prop where
  | mk (n01 : NN a0 a1) (n02 : NN a0 a2) (n03 : NN a0 a3) (n12 : NN a1 a2) (n13 : NN a1 a3) (n23 : NN a2 a3) : NN4 a0 a1 a2 a3
theorem nn4 {a0 a1 a2 a3 : Addr} {o0 o1 o2 o3 : Obj} (nd : (List.map (fun x : Addr × Obj => x.1) [(a0, o0), (a1, o1), (a2, o2), (a3, o3)]).Nodup) : NN4 a0 a1 a2 a3 := by
  exact ⟨nij nd 0 1 rfl rfl rfl, nij nd 0 2 rfl rfl rfl, nij nd 0 3 rfl rfl rfl, nij nd 1 2 rfl rfl rfl, nij nd 1 3 rfl rfl rfl, nij nd 2 3 rfl rfl rfl⟩
inductive NN6 (a0 a1 a2 a3 a4 a5 : Addr) : Prop where
  | mk (n01 : NN a0 a1) (n02 : NN a0 a2) (n03 : NN a0 a3) (n04 : NN a0 a4) (n05 : NN a0 a5) (n12 : NN a1 a2) (n13 : NN a1 a3) (n14 : NN a1 a4) (n15 : NN a1 a5) (n23 : NN a2 a3) (n24 : NN a2 a4) (n25 : NN a2 a5) (n34 : NN a3 a4) (n35 : NN a3 a5) (n45 : NN a4 a5) : NN6 a0 a1 a2 a3 a4 a5
theorem nn6 {a0 a1 a2 a3 a4 a5 : Addr} {o0 o1 o2 o3 o4 o5 : Obj} (nd : (List.map (fun x : Addr × Obj => x.1) [(a0, o0), (a1, o1), (a2, o2), (a3, o3), (a4, o4), (a5, o5)]).Nodup) : NN6 a0 a1 a2 a3 a4 a5 := by
  exact ⟨nij nd 0 1 rfl rfl rfl, nij nd 0 2 rfl rfl rfl, nij nd 0 3 rfl rfl rfl, nij nd 0 4 rfl rfl rfl, nij nd 0 5 rfl rfl rfl, nij nd 1 2 rfl rfl rfl, nij nd 1 3 rfl rfl rfl, nij nd 1 4 rfl rfl rfl, nij nd 1 5 rfl rfl rfl, nij nd 2 3 rfl rfl rfl, nij nd 2 4 rfl rfl rfl, nij nd 2 5 rfl rfl rfl, nij nd 3 4 rfl rfl rfl, nij nd 3 5 rfl rfl rfl, nij nd 4 5 rfl rfl rfl⟩
inductive NN7 (a0 a1 a2 a3 a4 a5 a6 : Addr) : Prop where
  | mk (n01 : NN a0 a1) (n02 : NN a0 a2) (n03 : NN a0 a3) (n04 : NN a0 a4) (n05 : NN a0 a5) (n06 : NN a0 a6) (n12 : NN a1 a2) (n13 : NN a1 a3) (n14 : NN a1 a4) (n15 : NN a1 a5) (n16 : NN a1 a6) (n23 : NN a2 a3) (n24 : NN a2 a4) (n25 : NN a2 a5) (n26 : NN a2 a6) (n34 : NN a3 a4) (n35 : NN a3 a5) (n36 : NN a3 a6) (n45 : NN a4 a5) (n46 : NN a4 a6) (n56 : NN a5 a6) : NN7 a0 a1 a2 a3 a4 a5 a6
theorem nn7 {a0 a1 a2 a3 a4 a5 a6 : Addr} {o0 o1 o2 o3 o4 o5 o6 : Obj} (nd : (List.map (fun x : Addr × Obj => x.1) [(a0, o0), (a1, o1), (a2, o2), (a3, o3), (a4, o4), (a5, o5), (a6, o6)]).Nodup) : NN7 a0 a1 a2 a3 a4 a5 a6 := by
  exact ⟨nij nd 0 1 rfl rfl rfl, nij nd 0 2 rfl rfl rfl, nij nd 0 3 rfl rfl rfl, nij nd 0 4 rfl rfl rfl, nij nd 0 5 rfl rfl rfl, nij nd 0 6 rfl rfl rfl, nij nd 1 2 rfl rfl rfl, nij nd 1 3 rfl rfl rfl, nij nd 1 4 rfl rfl rfl, nij nd 1 5 rfl rfl rfl, nij nd 1 6 rfl rfl rfl, nij nd 2 3 rfl rfl rfl, nij nd 2 4 rfl rfl rfl, nij nd 2 5 rfl rfl rfl, nij nd 2 6 rfl rfl rfl, nij nd 3 4 rfl rfl rfl, nij nd 3 5 rfl rfl rfl, nij nd 3 6 rfl rfl rfl, nij nd 4 5 rfl rfl rfl, nij nd 4 6 rfl rfl rfl, nij nd 5 6 rfl rfl rfl⟩
inductive NN9 (a0 a1 a2 a3 a4 a5 a6 a7 a8 : Addr) : Prop where
  | mk (n01 : NN a0 a1) (n02 : NN a0 a2) (n03 : NN a0 a3) (n04 : NN a0 a4) (n05 : NN a0 a5) (n06 : NN a0 a6) (n07 : NN a0 a7) (n08 : NN a0 a8) (n12 : NN a1 a2) (n13 : NN a1 a3) (n14 : NN a1 a4) (n15 : NN a1 a5) (n16 : NN a1 a6) (n17 : NN a1 a7) (n18 : NN a1 a8) (n23 : NN a2 a3) (n24 : NN a2 a4) (n25 : NN a2 a5) (n26 : NN a2 a6) (n27 : NN a2 a7) (n28 : NN a2 a8) (n34 : NN a3 a4) (n35 : NN a3 a5) (n36 : NN a3 a6) (n37 : NN a3 a7) (n38 : NN a3 a8) (n45 : NN a4 a5) (n46 : NN a4 a6) (n47 : NN a4 a7) (n48 : NN a4 a8) (n56 : NN a5 a6) (n57 : NN a5 a7) (n58 : NN a5 a8) (n67 : NN a6 a7) (n68 : NN a6 a8) (n78 : NN a7 a8) : NN9 a0 a1 a2 a3 a4 a5 a6 a7 a8
theorem nn9 {a0 a1 a2 a3 a4 a5 a6 a7 a8 : Addr} {o0 o1 o2 o3 o4 o5 o6 o7 o8 : Obj} (nd : (List.map (fun x : Addr × Obj => x.1) [(a0, o0), (a1, o1), (a2, o2), (a3, o3), (a4, o4), (a5, o5), (a6, o6), (a7, o7), (a8, o8)]).Nodup) : NN9 a0 a1 a2 a3 a4 a5 a6 a7 a8 := by
  exact ⟨nij nd 0 1 rfl rfl rfl, nij nd 0 2 rfl rfl rfl, nij nd 0 3 rfl rfl rfl, nij nd 0 4 rfl rfl rfl, nij nd 0 5 rfl rfl rfl, nij nd 0 6 rfl rfl rfl, nij nd 0 7 rfl rfl rfl, nij nd 0 8 rfl rfl rfl, nij nd 1 2 rfl rfl rfl, nij nd 1 3 rfl rfl rfl, nij nd 1 4 rfl rfl rfl, nij nd 1 5 rfl rfl rfl, nij nd 1 6 rfl rfl rfl, nij nd 1 7 rfl rfl rfl, nij nd 1 8 rfl rfl rfl, nij nd 2 3 rfl rfl rfl, nij nd 2 4 rfl rfl rfl, nij nd 2 5 rfl rfl rfl, nij nd 2 6 rfl rfl rfl, nij nd 2 7 rfl rfl rfl, nij nd 2 8 rfl rfl rfl, nij nd 3 4 rfl rfl rfl, nij nd 3 5 rfl rfl rfl, nij nd 3 6 rfl rfl rfl, nij nd 3 7 rfl rfl rfl, nij nd 3 8 rfl rfl rfl, nij nd 4 5 rfl rfl rfl, nij nd 4 6 rfl rfl rfl, nij nd 4 7 rfl rfl rfl, nij nd 4 8 rfl rfl rfl, nij nd 5 6 rfl rfl rfl, nij nd 5 7 rfl rfl rfl, nij nd 5 8 rfl rfl rfl, nij nd 6 7 rfl rfl rfl, nij nd 6 8 rfl rfl rfl, nij nd 7 8 rfl rfl rfl⟩
def AllNe (x : Nat) : List (Addr × Obj) → Prop
  | [] => True
  | p :: r => @Ne Nat x p.1 ∧ AllNe x r
theorem allNe_mem {x : Addr} : ∀ {all : List (Addr × Obj)}, AllNe x all → x ∉ all.map (·.1)
  | [], _, h => nomatch h
  | p :: r, ⟨h1, h2⟩, h => by
    rw [List.map_cons] at h
    rcases List.mem_cons.mp h with h | h
    · exact h1 h
    · exact allNe_mem h2 h
theorem nd_cons {x : Addr} {o : Obj} {all : List (Addr × Obj)} (h : AllNe x all) (nd : (all.map (·.1)).Nodup) : (((x, o) :: all).map (·.1)).Nodup := by
  rw [List.map_cons]
  exact List.nodup_cons.mpr ⟨allNe_mem h, nd⟩
theorem allNe_nil {x : Nat} : AllNe x [] := True.intro
theorem allNe_cons {x a : Nat} {o : Obj} {r : List (Addr × Obj)} (h : @Ne Nat x a) (t : AllNe x r) : AllNe x ((a, o) :: r) := ⟨h, t⟩
theorem news_pick {g h : Heap} {L : Addr} {all pre : List (Addr × Obj)} (N : News g L h all) (P : Sel pre all) : News g L h pre :=
  P.elim fun _ P => fun p hp => N p (P.perm.mem_iff.mp (List.mem_append_left _ hp))
theorem Sp.mono {w : World} {dp un : Nat} {f : Addr} {vs : List Value} {pre : List (Addr × Obj)} {post post' : Value → List (Addr × Obj) → Prop} (C : Sp w dp un f vs pre post) (h : ∀ v nl, post v nl → post' v nl) : Sp w dp un f vs pre post' :=
  fun env outer base g mean mg mb s R B X T k sz hp nd r => C env outer base g mean mg mb s R B X T k sz hp nd fun v n h' t p => r v n h' t (h v n p)
end Mine
end PartNd
section PartNm
open PySem PySem.W PySem.Calls PyProof.Rows
set_option Elab.async false
set_option maxRecDepth 100000
set_option maxHeartbeats 4000000
namespace Mine
theorem kfill_Nm (w : World) : (K w.params, PySem.Challenge.rw_on0348_01) = (K w.params, PySem.Challenge.rw_on0348_01) := by
  k_fill
  rfl
def IsKind (sc : Scope) (x : PySem.Str) (k : NameKind) : Prop := sc.kind = .function ∧ sc.names.lookup x = some k ∧ (x == ("__debug__" : PySem.Str)) = false
def AllK (sc : Scope) : List (PySem.Str × NameKind) → Prop
  | [] => True
  | p :: r => IsKind sc p.1 p.2 ∧ AllK sc r
def IsL (sc : Scope) (x : PySem.Str) : Prop := IsKind sc x .local
def IsG (sc : Scope) (x : PySem.Str) : Prop := IsKind sc x .globalImplicit
def TopIs (w : World) (x : PySem.Str) (v : Value) : Prop := nsIn (K w.params) mainGlobals x = some (some v)
def BuiltK (w : World) (x : PySem.Str) (v : Value) : Prop := nsIn (K w.params) mainGlobals x = some none ∧ bootBuiltins x = some v ∧ x ≠ "__name__"
section
variable {M : Model} {A : Around} {s : Shared} {Q E : Value → Shared → Prop} {h₀ : Heap} {L : Addr} {m : PySem.Str → Option Value} {name : PySem.Str} {scope : Scope} {a : Addr} {cd v : Value} {x : PySem.Str} {pos : Pos}
/-- a local name -/
theorem nmL (k : IsL scope x) (F : Fr h₀ L s.heap m) (hv : m x = some v) (h : Q v s) :
    wpAny M A (eval (.Name x pos) (envOf name scope L a cd)) Q E s :=
  ld F hv h k.1 k.2.1 k.2.2
variable {w : World} {mean : ExcName → Option Value} {mg mb : PySem.Str → Option Value}
/-- a name of the top -/
theorem nmK (k : IsG scope x) (e : TopIs w x v) (F : Fr h₀ L s.heap m) (X : (K w.params).In h₀) (T : Top qv (looseW qv loose) mean mg mb h₀)
    (h : Q v s) : wpAny M A (eval (.Name x pos) (envOf name scope L a cd)) Q E s :=
  nameX_K F X (topRead_of T) e h k.1 k.2.1 k.2.2
/-- a builtin's name -/
theorem nmB (k : IsG scope x) (e : BuiltK w x v) (F : Fr h₀ L s.heap m) (X : (K w.params).In h₀) (T : Top qv (looseW qv loose) mean mg mb h₀)
    (h : Q v s) : wpAny M A (eval (.Name x pos) (envOf name scope L a cd)) Q E s :=
  nameX_B F X (topRead_of T) e.1 e.2.1 e.2.2 h k.1 k.2.1 k.2.2
end
theorem of_all {sc : Scope} : ∀ {l : List (PySem.Str × NameKind)}, (l.all fun p => decide (sc.kind = .function) && decide (sc.names.lookup p.1 = some p.2) && !(p.1 == ("__debug__" : PySem.Str))) = true → AllK sc l
  | [], _ => trivial
  | p :: r, h => by
    rw [List.all_cons, Bool.and_eq_true, Bool.and_eq_true, Bool.and_eq_true] at h
    refine ⟨⟨of_decide_eq_true h.1.1.1, of_decide_eq_true h.1.1.2, ?_⟩, of_all h.2⟩
    have h3 := h.1.2
    cases e : (p.1 == ("__debug__" : PySem.Str)) with
    | false => rfl
    | true => rw [e] at h3; cases h3
theorem bk_bytearray (w : World) : BuiltK w (PySem.Str.ofString "bytearray") (.type "bytearray") := ⟨by k_is, by kernel_rfl, by decide⟩
theorem bk_bytes (w : World) : BuiltK w (PySem.Str.ofString "bytes") (.type "bytes") := ⟨by k_is, by boot_fast, by decide⟩
theorem bk_int (w : World) : BuiltK w (PySem.Str.ofString "int") (.type "int") := ⟨by k_is, by boot_fast, by decide⟩
theorem bk_len (w : World) : BuiltK w (PySem.Str.ofString "len") (.builtin "len") := ⟨by k_is, by boot_fast, by decide⟩
theorem bk_max (w : World) : BuiltK w (PySem.Str.ofString "max") (.builtin "max") := ⟨by k_is, by boot_fast, by decide⟩
theorem bk_min (w : World) : BuiltK w (PySem.Str.ofString "min") (.builtin "min") := ⟨by k_is, by boot_fast, by decide⟩
theorem bk_range (w : World) : BuiltK w (PySem.Str.ofString "range") (.type "range") := ⟨by k_is, by boot_fast, by decide⟩
theorem gk_AckPolicy (w : World) : TopIs w (PySem.Str.ofString "AckPolicy") (.ref 74) := by unfold TopIs; k_is
theorem gk_Assembly (w : World) : TopIs w (PySem.Str.ofString "Assembly") (.ref 943) := by unfold TopIs; k_is
theorem gk_Congestion (w : World) : TopIs w (PySem.Str.ofString "Congestion") (.ref 158) := by unfold TopIs; k_is
theorem gk_Limits (w : World) : TopIs w (PySem.Str.ofString "Limits") (.ref 804) := by unfold TopIs; k_is
theorem gk_PeerWindow (w : World) : TopIs w (PySem.Str.ofString "PeerWindow") (.ref 461) := by unfold TopIs; k_is
theorem gk_Receiver (w : World) : TopIs w (PySem.Str.ofString "Receiver") (.ref 1077) := by unfold TopIs; k_is
theorem gk_RetransmitClock (w : World) : TopIs w (PySem.Str.ofString "RetransmitClock") (.ref 270) := by unfold TopIs; k_is
theorem gk_RttEstimate (w : World) : TopIs w (PySem.Str.ofString "RttEstimate") (.ref 326) := by unfold TopIs; k_is
theorem gk_Segment (w : World) : TopIs w (PySem.Str.ofString "Segment") (.ref 702) := by unfold TopIs; k_is
theorem gk_SendQueue (w : World) : TopIs w (PySem.Str.ofString "SendQueue") (.ref 426) := by unfold TopIs; k_is
theorem gk_Sender (w : World) : TopIs w (PySem.Str.ofString "Sender") (.ref 652) := by unfold TopIs; k_is
theorem gk_Tcb (w : World) : TopIs w (PySem.Str.ofString "Tcb") (.ref 847) := by unfold TopIs; k_is
theorem gk_Wheel (w : World) : TopIs w (PySem.Str.ofString "Wheel") (.ref 783) := by unfold TopIs; k_is
theorem gk_law_clock_right (w : World) : TopIs w (PySem.Str.ofString "_law_clock_right") (.ref 1116) := by unfold TopIs; k_is
theorem gk_law_limits (w : World) : TopIs w (PySem.Str.ofString "_law_limits") (.ref 1109) := by unfold TopIs; k_is
theorem gk_law_one (w : World) : TopIs w (PySem.Str.ofString "_law_one") (.ref 1102) := by unfold TopIs; k_is
theorem gk_law_pool (w : World) : TopIs w (PySem.Str.ofString "_law_pool") (.ref 1088) := by unfold TopIs; k_is
theorem gk_law_round_right (w : World) : TopIs w (PySem.Str.ofString "_law_round_right") (.ref 1130) := by unfold TopIs; k_is
theorem gk_law_segment_right (w : World) : TopIs w (PySem.Str.ofString "_law_segment_right") (.ref 1123) := by unfold TopIs; k_is
theorem gk_law_take (w : World) : TopIs w (PySem.Str.ofString "_law_take") (.ref 1095) := by unfold TopIs; k_is
theorem gk_check_number (w : World) : TopIs w (PySem.Str.ofString "check_number") (.ref 713) := by unfold TopIs; k_is
theorem gk_clock_of (w : World) : TopIs w (PySem.Str.ofString "clock_of") (.ref 815) := by unfold TopIs; k_is
theorem gk_distance (w : World) : TopIs w (PySem.Str.ofString "distance") (.ref 176) := by unfold TopIs; k_is
theorem gk_is_at_most (w : World) : TopIs w (PySem.Str.ofString "is_at_most") (.ref 190) := by unfold TopIs; k_is
theorem gk_is_before (w : World) : TopIs w (PySem.Str.ofString "is_before") (.ref 183) := by unfold TopIs; k_is
theorem gk_mss_option (w : World) : TopIs w (PySem.Str.ofString "mss_option") (.ref 720) := by unfold TopIs; k_is
theorem gk_plus (w : World) : TopIs w (PySem.Str.ofString "plus") (.ref 169) := by unfold TopIs; k_is
theorem gk_put16 (w : World) : TopIs w (PySem.Str.ofString "put16") (.ref 663) := by unfold TopIs; k_is
theorem nf35 : IsL s35P.1 (PySem.Str.ofString "self") ∧ IsL s35P.1 (PySem.Str.ofString "delay") ∧ True :=
  of_all (l := [((PySem.Str.ofString "self"), .local), ((PySem.Str.ofString "delay"), .local)]) (by kernel_rfl)
theorem nf43 : IsL s43P.1 (PySem.Str.ofString "self") ∧ IsL s43P.1 (PySem.Str.ofString "in_order") ∧ IsL s43P.1 (PySem.Str.ofString "now") ∧ IsL s43P.1 (PySem.Str.ofString "has_holes") ∧ IsL s43P.1 (PySem.Str.ofString "filled") ∧ True :=
  of_all (l := [((PySem.Str.ofString "self"), .local), ((PySem.Str.ofString "in_order"), .local), ((PySem.Str.ofString "now"), .local), ((PySem.Str.ofString "has_holes"), .local), ((PySem.Str.ofString "filled"), .local)]) (by kernel_rfl)
theorem nf50 : IsL s50P.1 (PySem.Str.ofString "self") ∧ True :=
  of_all (l := [((PySem.Str.ofString "self"), .local)]) (by kernel_rfl)
theorem nf57 : IsL s57P.1 (PySem.Str.ofString "self") ∧ IsL s57P.1 (PySem.Str.ofString "now") ∧ True :=
  of_all (l := [((PySem.Str.ofString "self"), .local), ((PySem.Str.ofString "now"), .local)]) (by kernel_rfl)
theorem nf64 : IsL s64P.1 (PySem.Str.ofString "self") ∧ True :=
  of_all (l := [((PySem.Str.ofString "self"), .local)]) (by kernel_rfl)
theorem nf92 : IsL s92P.1 (PySem.Str.ofString "self") ∧ IsL s92P.1 (PySem.Str.ofString "mss") ∧ IsL s92P.1 (PySem.Str.ofString "first") ∧ IsL s92P.1 (PySem.Str.ofString "most") ∧ True :=
  of_all (l := [((PySem.Str.ofString "self"), .local), ((PySem.Str.ofString "mss"), .local), ((PySem.Str.ofString "first"), .local), ((PySem.Str.ofString "most"), .local)]) (by kernel_rfl)
theorem nf169 : IsL s169P.1 (PySem.Str.ofString "a") ∧ IsL s169P.1 (PySem.Str.ofString "n") ∧ IsL s169P.1 (PySem.Str.ofString "ring") ∧ True :=
  of_all (l := [((PySem.Str.ofString "a"), .local), ((PySem.Str.ofString "n"), .local), ((PySem.Str.ofString "ring"), .local)]) (by kernel_rfl)
theorem nf176 : IsL s176P.1 (PySem.Str.ofString "a") ∧ IsL s176P.1 (PySem.Str.ofString "b") ∧ IsL s176P.1 (PySem.Str.ofString "ring") ∧ True :=
  of_all (l := [((PySem.Str.ofString "a"), .local), ((PySem.Str.ofString "b"), .local), ((PySem.Str.ofString "ring"), .local)]) (by kernel_rfl)
theorem nf183 : IsL s183P.1 (PySem.Str.ofString "a") ∧ IsL s183P.1 (PySem.Str.ofString "b") ∧ IsL s183P.1 (PySem.Str.ofString "ring") ∧ IsL s183P.1 (PySem.Str.ofString "gap") ∧ IsG s183P.1 (PySem.Str.ofString "distance") ∧ True :=
  of_all (l := [((PySem.Str.ofString "a"), .local), ((PySem.Str.ofString "b"), .local), ((PySem.Str.ofString "ring"), .local), ((PySem.Str.ofString "gap"), .local), ((PySem.Str.ofString "distance"), .globalImplicit)]) (by kernel_rfl)
theorem nf190 : IsL s190P.1 (PySem.Str.ofString "a") ∧ IsL s190P.1 (PySem.Str.ofString "b") ∧ IsL s190P.1 (PySem.Str.ofString "ring") ∧ IsG s190P.1 (PySem.Str.ofString "is_before") ∧ True :=
  of_all (l := [((PySem.Str.ofString "a"), .local), ((PySem.Str.ofString "b"), .local), ((PySem.Str.ofString "ring"), .local), ((PySem.Str.ofString "is_before"), .globalImplicit)]) (by kernel_rfl)
theorem nf211 : IsL s211P.1 (PySem.Str.ofString "self") ∧ IsL s211P.1 (PySem.Str.ofString "estimate") ∧ IsL s211P.1 (PySem.Str.ofString "most_tries") ∧ True :=
  of_all (l := [((PySem.Str.ofString "self"), .local), ((PySem.Str.ofString "estimate"), .local), ((PySem.Str.ofString "most_tries"), .local)]) (by kernel_rfl)
theorem nf246 : IsL s246P.1 (PySem.Str.ofString "self") ∧ True :=
  of_all (l := [((PySem.Str.ofString "self"), .local)]) (by kernel_rfl)
theorem nf260 : IsL s260P.1 (PySem.Str.ofString "self") ∧ IsL s260P.1 (PySem.Str.ofString "ticks") ∧ IsL s260P.1 (PySem.Str.ofString "turn") ∧ IsG s260P.1 (PySem.Str.ofString "range") ∧ True :=
  of_all (l := [((PySem.Str.ofString "self"), .local), ((PySem.Str.ofString "ticks"), .local), ((PySem.Str.ofString "turn"), .local), ((PySem.Str.ofString "range"), .globalImplicit)]) (by kernel_rfl)
theorem nf288 : IsL s288P.1 (PySem.Str.ofString "self") ∧ IsL s288P.1 (PySem.Str.ofString "first") ∧ IsL s288P.1 (PySem.Str.ofString "least") ∧ IsL s288P.1 (PySem.Str.ofString "most") ∧ True :=
  of_all (l := [((PySem.Str.ofString "self"), .local), ((PySem.Str.ofString "first"), .local), ((PySem.Str.ofString "least"), .local), ((PySem.Str.ofString "most"), .local)]) (by kernel_rfl)
theorem nf309 : IsL s309P.1 (PySem.Str.ofString "self") ∧ True :=
  of_all (l := [((PySem.Str.ofString "self"), .local)]) (by kernel_rfl)
theorem nf316 : IsL s316P.1 (PySem.Str.ofString "self") ∧ True :=
  of_all (l := [((PySem.Str.ofString "self"), .local)]) (by kernel_rfl)
theorem nf323 : IsL s323P.1 (PySem.Str.ofString "self") ∧ IsL s323P.1 (PySem.Str.ofString "ticks") ∧ True :=
  of_all (l := [((PySem.Str.ofString "self"), .local), ((PySem.Str.ofString "ticks"), .local)]) (by kernel_rfl)
theorem nf388 : IsL s388P.1 (PySem.Str.ofString "self") ∧ IsL s388P.1 (PySem.Str.ofString "room") ∧ True :=
  of_all (l := [((PySem.Str.ofString "self"), .local), ((PySem.Str.ofString "room"), .local)]) (by kernel_rfl)
theorem nf444 : IsL s444P.1 (PySem.Str.ofString "self") ∧ IsL s444P.1 (PySem.Str.ofString "ring") ∧ True :=
  of_all (l := [((PySem.Str.ofString "self"), .local), ((PySem.Str.ofString "ring"), .local)]) (by kernel_rfl)
theorem nf479 : IsL s479P.1 (PySem.Str.ofString "self") ∧ IsL s479P.1 (PySem.Str.ofString "iss") ∧ IsL s479P.1 (PySem.Str.ofString "ring") ∧ IsL s479P.1 (PySem.Str.ofString "mss") ∧ IsL s479P.1 (PySem.Str.ofString "room") ∧ IsG s479P.1 (PySem.Str.ofString "PeerWindow") ∧ IsG s479P.1 (PySem.Str.ofString "SendQueue") ∧ True :=
  of_all (l := [((PySem.Str.ofString "self"), .local), ((PySem.Str.ofString "iss"), .local), ((PySem.Str.ofString "ring"), .local), ((PySem.Str.ofString "mss"), .local), ((PySem.Str.ofString "room"), .local), ((PySem.Str.ofString "PeerWindow"), .globalImplicit), ((PySem.Str.ofString "SendQueue"), .globalImplicit)]) (by kernel_rfl)
theorem nf663 : IsL s663P.1 (PySem.Str.ofString "n") ∧ IsG s663P.1 (PySem.Str.ofString "bytes") ∧ True :=
  of_all (l := [((PySem.Str.ofString "n"), .local), ((PySem.Str.ofString "bytes"), .globalImplicit)]) (by kernel_rfl)
theorem nf678 : IsL s678P.1 (PySem.Str.ofString "self") ∧ IsL s678P.1 (PySem.Str.ofString "source_port") ∧ IsL s678P.1 (PySem.Str.ofString "target_port") ∧ IsL s678P.1 (PySem.Str.ofString "seq") ∧ IsL s678P.1 (PySem.Str.ofString "ack") ∧ IsL s678P.1 (PySem.Str.ofString "flags") ∧ IsL s678P.1 (PySem.Str.ofString "window") ∧ IsL s678P.1 (PySem.Str.ofString "urgent") ∧ IsL s678P.1 (PySem.Str.ofString "options") ∧ IsL s678P.1 (PySem.Str.ofString "payload") ∧ True :=
  of_all (l := [((PySem.Str.ofString "self"), .local), ((PySem.Str.ofString "source_port"), .local), ((PySem.Str.ofString "target_port"), .local), ((PySem.Str.ofString "seq"), .local), ((PySem.Str.ofString "ack"), .local), ((PySem.Str.ofString "flags"), .local), ((PySem.Str.ofString "window"), .local), ((PySem.Str.ofString "urgent"), .local), ((PySem.Str.ofString "options"), .local), ((PySem.Str.ofString "payload"), .local)]) (by kernel_rfl)
theorem nf713 : IsL s713P.1 (PySem.Str.ofString "number") ∧ IsL s713P.1 (PySem.Str.ofString "bits") ∧ True :=
  of_all (l := [((PySem.Str.ofString "number"), .local), ((PySem.Str.ofString "bits"), .local)]) (by kernel_rfl)
theorem nf720 : IsL s720P.1 (PySem.Str.ofString "n") ∧ IsG s720P.1 (PySem.Str.ofString "check_number") ∧ IsG s720P.1 (PySem.Str.ofString "put16") ∧ IsG s720P.1 (PySem.Str.ofString "bytes") ∧ True :=
  of_all (l := [((PySem.Str.ofString "n"), .local), ((PySem.Str.ofString "check_number"), .globalImplicit), ((PySem.Str.ofString "put16"), .globalImplicit), ((PySem.Str.ofString "bytes"), .globalImplicit)]) (by kernel_rfl)
theorem nf733 : IsL s733P.1 (PySem.Str.ofString "self") ∧ IsL s733P.1 (PySem.Str.ofString "size") ∧ IsG s733P.1 (PySem.Str.ofString "range") ∧ True :=
  of_all (l := [((PySem.Str.ofString "self"), .local), ((PySem.Str.ofString "size"), .local), ((PySem.Str.ofString "range"), .globalImplicit)]) (by kernel_rfl)
theorem nf740 : IsL s740P.1 (PySem.Str.ofString "self") ∧ IsL s740P.1 (PySem.Str.ofString "key") ∧ IsL s740P.1 (PySem.Str.ofString "time") ∧ True :=
  of_all (l := [((PySem.Str.ofString "self"), .local), ((PySem.Str.ofString "key"), .local), ((PySem.Str.ofString "time"), .local)]) (by kernel_rfl)
theorem nf747 : IsL s747P.1 (PySem.Str.ofString "self") ∧ IsL s747P.1 (PySem.Str.ofString "time") ∧ True :=
  of_all (l := [((PySem.Str.ofString "self"), .local), ((PySem.Str.ofString "time"), .local)]) (by kernel_rfl)
theorem nf754 : IsL s754P.1 (PySem.Str.ofString "self") ∧ IsL s754P.1 (PySem.Str.ofString "key") ∧ IsL s754P.1 (PySem.Str.ofString "time") ∧ IsL s754P.1 (PySem.Str.ofString "order") ∧ IsL s754P.1 (PySem.Str.ofString "keys") ∧ True :=
  of_all (l := [((PySem.Str.ofString "self"), .local), ((PySem.Str.ofString "key"), .local), ((PySem.Str.ofString "time"), .local), ((PySem.Str.ofString "order"), .local), ((PySem.Str.ofString "keys"), .local)]) (by kernel_rfl)
theorem nf761 : IsL s761P.1 (PySem.Str.ofString "self") ∧ IsL s761P.1 (PySem.Str.ofString "key") ∧ True :=
  of_all (l := [((PySem.Str.ofString "self"), .local), ((PySem.Str.ofString "key"), .local)]) (by kernel_rfl)
theorem nf801 : IsL s801P.1 (PySem.Str.ofString "self") ∧ IsL s801P.1 (PySem.Str.ofString "ring") ∧ IsL s801P.1 (PySem.Str.ofString "mss") ∧ IsL s801P.1 (PySem.Str.ofString "send_room") ∧ IsL s801P.1 (PySem.Str.ofString "receive_room") ∧ IsL s801P.1 (PySem.Str.ofString "first_timeout") ∧ IsL s801P.1 (PySem.Str.ofString "least_timeout") ∧ IsL s801P.1 (PySem.Str.ofString "most_timeout") ∧ IsL s801P.1 (PySem.Str.ofString "most_tries") ∧ IsL s801P.1 (PySem.Str.ofString "ack_delay") ∧ IsL s801P.1 (PySem.Str.ofString "time_wait") ∧ True :=
  of_all (l := [((PySem.Str.ofString "self"), .local), ((PySem.Str.ofString "ring"), .local), ((PySem.Str.ofString "mss"), .local), ((PySem.Str.ofString "send_room"), .local), ((PySem.Str.ofString "receive_room"), .local), ((PySem.Str.ofString "first_timeout"), .local), ((PySem.Str.ofString "least_timeout"), .local), ((PySem.Str.ofString "most_timeout"), .local), ((PySem.Str.ofString "most_tries"), .local), ((PySem.Str.ofString "ack_delay"), .local), ((PySem.Str.ofString "time_wait"), .local)]) (by kernel_rfl)
theorem nf815 : IsL s815P.1 (PySem.Str.ofString "limits") ∧ IsL s815P.1 (PySem.Str.ofString "estimate") ∧ IsG s815P.1 (PySem.Str.ofString "RttEstimate") ∧ IsG s815P.1 (PySem.Str.ofString "RetransmitClock") ∧ True :=
  of_all (l := [((PySem.Str.ofString "limits"), .local), ((PySem.Str.ofString "estimate"), .local), ((PySem.Str.ofString "RttEstimate"), .globalImplicit), ((PySem.Str.ofString "RetransmitClock"), .globalImplicit)]) (by kernel_rfl)
theorem nf829 : IsL s829P.1 (PySem.Str.ofString "self") ∧ IsL s829P.1 (PySem.Str.ofString "limits") ∧ IsL s829P.1 (PySem.Str.ofString "local") ∧ IsL s829P.1 (PySem.Str.ofString "remote") ∧ IsL s829P.1 (PySem.Str.ofString "iss") ∧ IsG s829P.1 (PySem.Str.ofString "Sender") ∧ IsG s829P.1 (PySem.Str.ofString "clock_of") ∧ IsG s829P.1 (PySem.Str.ofString "Congestion") ∧ IsG s829P.1 (PySem.Str.ofString "AckPolicy") ∧ IsG s829P.1 (PySem.Str.ofString "Wheel") ∧ True :=
  of_all (l := [((PySem.Str.ofString "self"), .local), ((PySem.Str.ofString "limits"), .local), ((PySem.Str.ofString "local"), .local), ((PySem.Str.ofString "remote"), .local), ((PySem.Str.ofString "iss"), .local), ((PySem.Str.ofString "Sender"), .globalImplicit), ((PySem.Str.ofString "clock_of"), .globalImplicit), ((PySem.Str.ofString "Congestion"), .globalImplicit), ((PySem.Str.ofString "AckPolicy"), .globalImplicit), ((PySem.Str.ofString "Wheel"), .globalImplicit)]) (by kernel_rfl)
theorem nf836 : IsL s836P.1 (PySem.Str.ofString "self") ∧ IsG s836P.1 (PySem.Str.ofString "min") ∧ True :=
  of_all (l := [((PySem.Str.ofString "self"), .local), ((PySem.Str.ofString "min"), .globalImplicit)]) (by kernel_rfl)
theorem nf844 : IsL s844P.1 (PySem.Str.ofString "self") ∧ IsL s844P.1 (PySem.Str.ofString "flags") ∧ IsL s844P.1 (PySem.Str.ofString "seq") ∧ IsL s844P.1 (PySem.Str.ofString "payload") ∧ IsL s844P.1 (PySem.Str.ofString "ack") ∧ IsL s844P.1 (PySem.Str.ofString "options") ∧ IsL s844P.1 (PySem.Str.ofString "window") ∧ IsG s844P.1 (PySem.Str.ofString "mss_option") ∧ IsG s844P.1 (PySem.Str.ofString "Segment") ∧ IsG s844P.1 (PySem.Str.ofString "min") ∧ True :=
  of_all (l := [((PySem.Str.ofString "self"), .local), ((PySem.Str.ofString "flags"), .local), ((PySem.Str.ofString "seq"), .local), ((PySem.Str.ofString "payload"), .local), ((PySem.Str.ofString "ack"), .local), ((PySem.Str.ofString "options"), .local), ((PySem.Str.ofString "window"), .local), ((PySem.Str.ofString "mss_option"), .globalImplicit), ((PySem.Str.ofString "Segment"), .globalImplicit), ((PySem.Str.ofString "min"), .globalImplicit)]) (by kernel_rfl)
theorem nf865 : IsL s865P.1 (PySem.Str.ofString "self") ∧ IsL s865P.1 (PySem.Str.ofString "ring") ∧ True :=
  of_all (l := [((PySem.Str.ofString "self"), .local), ((PySem.Str.ofString "ring"), .local)]) (by kernel_rfl)
theorem nf884 : IsL s884P.1 (PySem.Str.ofString "self") ∧ IsL s884P.1 (PySem.Str.ofString "seq") ∧ IsL s884P.1 (PySem.Str.ofString "next") ∧ IsG s884P.1 (PySem.Str.ofString "is_before") ∧ IsG s884P.1 (PySem.Str.ofString "distance") ∧ True :=
  of_all (l := [((PySem.Str.ofString "self"), .local), ((PySem.Str.ofString "seq"), .local), ((PySem.Str.ofString "next"), .local), ((PySem.Str.ofString "is_before"), .globalImplicit), ((PySem.Str.ofString "distance"), .globalImplicit)]) (by kernel_rfl)
theorem nf891 : IsL s891P.1 (PySem.Str.ofString "self") ∧ IsL s891P.1 (PySem.Str.ofString "seq") ∧ IsL s891P.1 (PySem.Str.ofString "octets") ∧ IsL s891P.1 (PySem.Str.ofString "next") ∧ IsL s891P.1 (PySem.Str.ofString "begin") ∧ IsL s891P.1 (PySem.Str.ofString "fresh") ∧ True :=
  of_all (l := [((PySem.Str.ofString "self"), .local), ((PySem.Str.ofString "seq"), .local), ((PySem.Str.ofString "octets"), .local), ((PySem.Str.ofString "next"), .local), ((PySem.Str.ofString "begin"), .local), ((PySem.Str.ofString "fresh"), .local)]) (by kernel_rfl)
theorem nf898 : IsL s898P.1 (PySem.Str.ofString "self") ∧ IsL s898P.1 (PySem.Str.ofString "begin") ∧ IsL s898P.1 (PySem.Str.ofString "octets") ∧ IsL s898P.1 (PySem.Str.ofString "next") ∧ IsL s898P.1 (PySem.Str.ofString "end") ∧ IsL s898P.1 (PySem.Str.ofString "found") ∧ IsL s898P.1 (PySem.Str.ofString "at") ∧ IsL s898P.1 (PySem.Str.ofString "seq") ∧ IsL s898P.1 (PySem.Str.ofString "kept") ∧ IsL s898P.1 (PySem.Str.ofString "first") ∧ IsL s898P.1 (PySem.Str.ofString "last") ∧ IsG s898P.1 (PySem.Str.ofString "len") ∧ True :=
  of_all (l := [((PySem.Str.ofString "self"), .local), ((PySem.Str.ofString "begin"), .local), ((PySem.Str.ofString "octets"), .local), ((PySem.Str.ofString "next"), .local), ((PySem.Str.ofString "end"), .local), ((PySem.Str.ofString "found"), .local), ((PySem.Str.ofString "at"), .local), ((PySem.Str.ofString "seq"), .local), ((PySem.Str.ofString "kept"), .local), ((PySem.Str.ofString "first"), .local), ((PySem.Str.ofString "last"), .local), ((PySem.Str.ofString "len"), .globalImplicit)]) (by kernel_rfl)
theorem nf905 : IsL s905P.1 (PySem.Str.ofString "self") ∧ IsL s905P.1 (PySem.Str.ofString "fresh") ∧ IsL s905P.1 (PySem.Str.ofString "next") ∧ IsL s905P.1 (PySem.Str.ofString "found") ∧ IsL s905P.1 (PySem.Str.ofString "rest") ∧ IsL s905P.1 (PySem.Str.ofString "seq") ∧ IsL s905P.1 (PySem.Str.ofString "kept") ∧ IsL s905P.1 (PySem.Str.ofString "first") ∧ True :=
  of_all (l := [((PySem.Str.ofString "self"), .local), ((PySem.Str.ofString "fresh"), .local), ((PySem.Str.ofString "next"), .local), ((PySem.Str.ofString "found"), .local), ((PySem.Str.ofString "rest"), .local), ((PySem.Str.ofString "seq"), .local), ((PySem.Str.ofString "kept"), .local), ((PySem.Str.ofString "first"), .local)]) (by kernel_rfl)
theorem nf912 : IsL s912P.1 (PySem.Str.ofString "self") ∧ IsL s912P.1 (PySem.Str.ofString "pieces") ∧ IsL s912P.1 (PySem.Str.ofString "next") ∧ IsL s912P.1 (PySem.Str.ofString "found") ∧ IsL s912P.1 (PySem.Str.ofString "end") ∧ IsL s912P.1 (PySem.Str.ofString "first") ∧ IsL s912P.1 (PySem.Str.ofString "octets") ∧ IsL s912P.1 (PySem.Str.ofString "seq") ∧ IsL s912P.1 (PySem.Str.ofString "ahead") ∧ IsG s912P.1 (PySem.Str.ofString "plus") ∧ IsG s912P.1 (PySem.Str.ofString "len") ∧ True :=
  of_all (l := [((PySem.Str.ofString "self"), .local), ((PySem.Str.ofString "pieces"), .local), ((PySem.Str.ofString "next"), .local), ((PySem.Str.ofString "found"), .local), ((PySem.Str.ofString "end"), .local), ((PySem.Str.ofString "first"), .local), ((PySem.Str.ofString "octets"), .local), ((PySem.Str.ofString "seq"), .local), ((PySem.Str.ofString "ahead"), .local), ((PySem.Str.ofString "plus"), .globalImplicit), ((PySem.Str.ofString "len"), .globalImplicit)]) (by kernel_rfl)
theorem nf919 : IsL s919P.1 (PySem.Str.ofString "self") ∧ IsL s919P.1 (PySem.Str.ofString "next") ∧ IsL s919P.1 (PySem.Str.ofString "seq") ∧ IsL s919P.1 (PySem.Str.ofString "octets") ∧ IsL s919P.1 (PySem.Str.ofString "begin") ∧ IsG s919P.1 (PySem.Str.ofString "len") ∧ True :=
  of_all (l := [((PySem.Str.ofString "self"), .local), ((PySem.Str.ofString "next"), .local), ((PySem.Str.ofString "seq"), .local), ((PySem.Str.ofString "octets"), .local), ((PySem.Str.ofString "begin"), .local), ((PySem.Str.ofString "len"), .globalImplicit)]) (by kernel_rfl)
theorem nf926 : IsL s926P.1 (PySem.Str.ofString "self") ∧ IsL s926P.1 (PySem.Str.ofString "next") ∧ True :=
  of_all (l := [((PySem.Str.ofString "self"), .local), ((PySem.Str.ofString "next"), .local)]) (by kernel_rfl)
theorem nf962 : IsL s962P.1 (PySem.Str.ofString "self") ∧ IsL s962P.1 (PySem.Str.ofString "irs") ∧ IsL s962P.1 (PySem.Str.ofString "ring") ∧ IsL s962P.1 (PySem.Str.ofString "room") ∧ IsL s962P.1 (PySem.Str.ofString "mss") ∧ IsG s962P.1 (PySem.Str.ofString "plus") ∧ IsG s962P.1 (PySem.Str.ofString "Assembly") ∧ IsG s962P.1 (PySem.Str.ofString "bytearray") ∧ True :=
  of_all (l := [((PySem.Str.ofString "self"), .local), ((PySem.Str.ofString "irs"), .local), ((PySem.Str.ofString "ring"), .local), ((PySem.Str.ofString "room"), .local), ((PySem.Str.ofString "mss"), .local), ((PySem.Str.ofString "plus"), .globalImplicit), ((PySem.Str.ofString "Assembly"), .globalImplicit), ((PySem.Str.ofString "bytearray"), .globalImplicit)]) (by kernel_rfl)
theorem nf969 : IsL s969P.1 (PySem.Str.ofString "self") ∧ IsG s969P.1 (PySem.Str.ofString "plus") ∧ IsG s969P.1 (PySem.Str.ofString "len") ∧ True :=
  of_all (l := [((PySem.Str.ofString "self"), .local), ((PySem.Str.ofString "plus"), .globalImplicit), ((PySem.Str.ofString "len"), .globalImplicit)]) (by kernel_rfl)
theorem nf976 : IsL s976P.1 (PySem.Str.ofString "self") ∧ IsL s976P.1 (PySem.Str.ofString "mss") ∧ IsG s976P.1 (PySem.Str.ofString "is_before") ∧ IsG s976P.1 (PySem.Str.ofString "distance") ∧ IsG s976P.1 (PySem.Str.ofString "max") ∧ IsG s976P.1 (PySem.Str.ofString "min") ∧ True :=
  of_all (l := [((PySem.Str.ofString "self"), .local), ((PySem.Str.ofString "mss"), .local), ((PySem.Str.ofString "is_before"), .globalImplicit), ((PySem.Str.ofString "distance"), .globalImplicit), ((PySem.Str.ofString "max"), .globalImplicit), ((PySem.Str.ofString "min"), .globalImplicit)]) (by kernel_rfl)
theorem nf983 : IsL s983P.1 (PySem.Str.ofString "self") ∧ IsG s983P.1 (PySem.Str.ofString "is_before") ∧ IsG s983P.1 (PySem.Str.ofString "distance") ∧ True :=
  of_all (l := [((PySem.Str.ofString "self"), .local), ((PySem.Str.ofString "is_before"), .globalImplicit), ((PySem.Str.ofString "distance"), .globalImplicit)]) (by kernel_rfl)
theorem nf990 : IsL s990P.1 (PySem.Str.ofString "self") ∧ True :=
  of_all (l := [((PySem.Str.ofString "self"), .local)]) (by kernel_rfl)
theorem nf997 : IsL s997P.1 (PySem.Str.ofString "self") ∧ IsL s997P.1 (PySem.Str.ofString "seq") ∧ IsL s997P.1 (PySem.Str.ofString "octets") ∧ IsL s997P.1 (PySem.Str.ofString "has_fin") ∧ IsL s997P.1 (PySem.Str.ofString "is_in_order") ∧ IsL s997P.1 (PySem.Str.ofString "kept") ∧ IsL s997P.1 (PySem.Str.ofString "fresh") ∧ IsG s997P.1 (PySem.Str.ofString "is_at_most") ∧ IsG s997P.1 (PySem.Str.ofString "plus") ∧ IsG s997P.1 (PySem.Str.ofString "len") ∧ True :=
  of_all (l := [((PySem.Str.ofString "self"), .local), ((PySem.Str.ofString "seq"), .local), ((PySem.Str.ofString "octets"), .local), ((PySem.Str.ofString "has_fin"), .local), ((PySem.Str.ofString "is_in_order"), .local), ((PySem.Str.ofString "kept"), .local), ((PySem.Str.ofString "fresh"), .local), ((PySem.Str.ofString "is_at_most"), .globalImplicit), ((PySem.Str.ofString "plus"), .globalImplicit), ((PySem.Str.ofString "len"), .globalImplicit)]) (by kernel_rfl)
theorem nf1004 : IsL s1004P.1 (PySem.Str.ofString "self") ∧ IsL s1004P.1 (PySem.Str.ofString "seq") ∧ IsL s1004P.1 (PySem.Str.ofString "octets") ∧ IsL s1004P.1 (PySem.Str.ofString "most") ∧ IsG s1004P.1 (PySem.Str.ofString "is_before") ∧ IsG s1004P.1 (PySem.Str.ofString "distance") ∧ IsG s1004P.1 (PySem.Str.ofString "bytes") ∧ True :=
  of_all (l := [((PySem.Str.ofString "self"), .local), ((PySem.Str.ofString "seq"), .local), ((PySem.Str.ofString "octets"), .local), ((PySem.Str.ofString "most"), .local), ((PySem.Str.ofString "is_before"), .globalImplicit), ((PySem.Str.ofString "distance"), .globalImplicit), ((PySem.Str.ofString "bytes"), .globalImplicit)]) (by kernel_rfl)
theorem nf1025 : IsL s1025P.1 (PySem.Str.ofString "self") ∧ IsL s1025P.1 (PySem.Str.ofString "fresh") ∧ IsG s1025P.1 (PySem.Str.ofString "plus") ∧ IsG s1025P.1 (PySem.Str.ofString "len") ∧ True :=
  of_all (l := [((PySem.Str.ofString "self"), .local), ((PySem.Str.ofString "fresh"), .local), ((PySem.Str.ofString "plus"), .globalImplicit), ((PySem.Str.ofString "len"), .globalImplicit)]) (by kernel_rfl)
theorem nf1046 : IsL s1046P.1 (PySem.Str.ofString "self") ∧ IsL s1046P.1 (PySem.Str.ofString "many") ∧ IsL s1046P.1 (PySem.Str.ofString "found") ∧ IsG s1046P.1 (PySem.Str.ofString "bytes") ∧ IsG s1046P.1 (PySem.Str.ofString "len") ∧ True :=
  of_all (l := [((PySem.Str.ofString "self"), .local), ((PySem.Str.ofString "many"), .local), ((PySem.Str.ofString "found"), .local), ((PySem.Str.ofString "bytes"), .globalImplicit), ((PySem.Str.ofString "len"), .globalImplicit)]) (by kernel_rfl)
theorem nf1088 : IsL s1088P.1 (PySem.Str.ofString "script") ∧ IsL s1088P.1 (PySem.Str.ofString "k") ∧ IsL s1088P.1 (PySem.Str.ofString "cell") ∧ IsL s1088P.1 (PySem.Str.ofString "big") ∧ IsL s1088P.1 (PySem.Str.ofString "mixed") ∧ IsG s1088P.1 (PySem.Str.ofString "len") ∧ IsG s1088P.1 (PySem.Str.ofString "max") ∧ IsG s1088P.1 (PySem.Str.ofString "int") ∧ True :=
  of_all (l := [((PySem.Str.ofString "script"), .local), ((PySem.Str.ofString "k"), .local), ((PySem.Str.ofString "cell"), .local), ((PySem.Str.ofString "big"), .local), ((PySem.Str.ofString "mixed"), .local), ((PySem.Str.ofString "len"), .globalImplicit), ((PySem.Str.ofString "max"), .globalImplicit), ((PySem.Str.ofString "int"), .globalImplicit)]) (by kernel_rfl)
theorem nf1095 : IsL s1095P.1 (PySem.Str.ofString "source") ∧ IsL s1095P.1 (PySem.Str.ofString "top") ∧ IsL s1095P.1 (PySem.Str.ofString "drawn") ∧ IsG s1095P.1 (PySem.Str.ofString "int") ∧ True :=
  of_all (l := [((PySem.Str.ofString "source"), .local), ((PySem.Str.ofString "top"), .local), ((PySem.Str.ofString "drawn"), .local), ((PySem.Str.ofString "int"), .globalImplicit)]) (by kernel_rfl)
theorem nf1102 : IsL s1102P.1 (PySem.Str.ofString "source") ∧ IsL s1102P.1 (PySem.Str.ofString "things") ∧ IsG s1102P.1 (PySem.Str.ofString "_law_take") ∧ IsG s1102P.1 (PySem.Str.ofString "len") ∧ True :=
  of_all (l := [((PySem.Str.ofString "source"), .local), ((PySem.Str.ofString "things"), .local), ((PySem.Str.ofString "_law_take"), .globalImplicit), ((PySem.Str.ofString "len"), .globalImplicit)]) (by kernel_rfl)
theorem nf1109 : IsL s1109P.1 (PySem.Str.ofString "source") ∧ IsL s1109P.1 (PySem.Str.ofString "ring") ∧ IsL s1109P.1 (PySem.Str.ofString "room") ∧ IsL s1109P.1 (PySem.Str.ofString "most_here") ∧ IsG s1109P.1 (PySem.Str.ofString "_law_one") ∧ IsG s1109P.1 (PySem.Str.ofString "_law_take") ∧ True :=
  of_all (l := [((PySem.Str.ofString "source"), .local), ((PySem.Str.ofString "ring"), .local), ((PySem.Str.ofString "room"), .local), ((PySem.Str.ofString "most_here"), .local), ((PySem.Str.ofString "_law_one"), .globalImplicit), ((PySem.Str.ofString "_law_take"), .globalImplicit)]) (by kernel_rfl)
theorem nf1116 : IsL s1116P.1 (PySem.Str.ofString "limits") ∧ IsL s1116P.1 (PySem.Str.ofString "first") ∧ IsL s1116P.1 (PySem.Str.ofString "least") ∧ IsL s1116P.1 (PySem.Str.ofString "most") ∧ IsL s1116P.1 (PySem.Str.ofString "clock_here") ∧ IsL s1116P.1 (PySem.Str.ofString "tries") ∧ IsG s1116P.1 (PySem.Str.ofString "clock_of") ∧ IsG s1116P.1 (PySem.Str.ofString "range") ∧ IsG s1116P.1 (PySem.Str.ofString "min") ∧ IsG s1116P.1 (PySem.Str.ofString "max") ∧ True :=
  of_all (l := [((PySem.Str.ofString "limits"), .local), ((PySem.Str.ofString "first"), .local), ((PySem.Str.ofString "least"), .local), ((PySem.Str.ofString "most"), .local), ((PySem.Str.ofString "clock_here"), .local), ((PySem.Str.ofString "tries"), .local), ((PySem.Str.ofString "clock_of"), .globalImplicit), ((PySem.Str.ofString "range"), .globalImplicit), ((PySem.Str.ofString "min"), .globalImplicit), ((PySem.Str.ofString "max"), .globalImplicit)]) (by kernel_rfl)
theorem nf1123 : IsL s1123P.1 (PySem.Str.ofString "tcb") ∧ IsL s1123P.1 (PySem.Str.ofString "book") ∧ IsL s1123P.1 (PySem.Str.ofString "flags") ∧ IsL s1123P.1 (PySem.Str.ofString "seq") ∧ IsL s1123P.1 (PySem.Str.ofString "octets") ∧ IsL s1123P.1 (PySem.Str.ofString "waits") ∧ IsL s1123P.1 (PySem.Str.ofString "made") ∧ IsL s1123P.1 (PySem.Str.ofString "due") ∧ IsL s1123P.1 (PySem.Str.ofString "ack") ∧ IsL s1123P.1 (PySem.Str.ofString "window") ∧ IsL s1123P.1 (PySem.Str.ofString "free") ∧ IsL s1123P.1 (PySem.Str.ofString "size") ∧ IsL s1123P.1 (PySem.Str.ofString "option") ∧ IsG s1123P.1 (PySem.Str.ofString "max") ∧ IsG s1123P.1 (PySem.Str.ofString "min") ∧ IsG s1123P.1 (PySem.Str.ofString "bytes") ∧ True :=
  of_all (l := [((PySem.Str.ofString "tcb"), .local), ((PySem.Str.ofString "book"), .local), ((PySem.Str.ofString "flags"), .local), ((PySem.Str.ofString "seq"), .local), ((PySem.Str.ofString "octets"), .local), ((PySem.Str.ofString "waits"), .local), ((PySem.Str.ofString "made"), .local), ((PySem.Str.ofString "due"), .local), ((PySem.Str.ofString "ack"), .local), ((PySem.Str.ofString "window"), .local), ((PySem.Str.ofString "free"), .local), ((PySem.Str.ofString "size"), .local), ((PySem.Str.ofString "option"), .local), ((PySem.Str.ofString "max"), .globalImplicit), ((PySem.Str.ofString "min"), .globalImplicit), ((PySem.Str.ofString "bytes"), .globalImplicit)]) (by kernel_rfl)
theorem nf1130 : IsL s1130P.1 (PySem.Str.ofString "source") ∧ IsL s1130P.1 (PySem.Str.ofString "tcb") ∧ IsL s1130P.1 (PySem.Str.ofString "book") ∧ IsL s1130P.1 (PySem.Str.ofString "left") ∧ IsL s1130P.1 (PySem.Str.ofString "octets") ∧ IsL s1130P.1 (PySem.Str.ofString "told_now") ∧ IsL s1130P.1 (PySem.Str.ofString "many") ∧ IsL s1130P.1 (PySem.Str.ofString "flags") ∧ IsL s1130P.1 (PySem.Str.ofString "seq") ∧ IsG s1130P.1 (PySem.Str.ofString "_law_take") ∧ IsG s1130P.1 (PySem.Str.ofString "_law_one") ∧ IsG s1130P.1 (PySem.Str.ofString "_law_segment_right") ∧ IsG s1130P.1 (PySem.Str.ofString "bytes") ∧ IsG s1130P.1 (PySem.Str.ofString "range") ∧ IsG s1130P.1 (PySem.Str.ofString "min") ∧ IsG s1130P.1 (PySem.Str.ofString "len") ∧ True :=
  of_all (l := [((PySem.Str.ofString "source"), .local), ((PySem.Str.ofString "tcb"), .local), ((PySem.Str.ofString "book"), .local), ((PySem.Str.ofString "left"), .local), ((PySem.Str.ofString "octets"), .local), ((PySem.Str.ofString "told_now"), .local), ((PySem.Str.ofString "many"), .local), ((PySem.Str.ofString "flags"), .local), ((PySem.Str.ofString "seq"), .local), ((PySem.Str.ofString "_law_take"), .globalImplicit), ((PySem.Str.ofString "_law_one"), .globalImplicit), ((PySem.Str.ofString "_law_segment_right"), .globalImplicit), ((PySem.Str.ofString "bytes"), .globalImplicit), ((PySem.Str.ofString "range"), .globalImplicit), ((PySem.Str.ofString "min"), .globalImplicit), ((PySem.Str.ofString "len"), .globalImplicit)]) (by kernel_rfl)
theorem nf1137 : IsL s1137P.1 (PySem.Str.ofString "script") ∧ IsL s1137P.1 (PySem.Str.ofString "source") ∧ IsL s1137P.1 (PySem.Str.ofString "ring") ∧ IsL s1137P.1 (PySem.Str.ofString "most_here") ∧ IsL s1137P.1 (PySem.Str.ofString "room") ∧ IsL s1137P.1 (PySem.Str.ofString "first") ∧ IsL s1137P.1 (PySem.Str.ofString "least") ∧ IsL s1137P.1 (PySem.Str.ofString "most") ∧ IsL s1137P.1 (PySem.Str.ofString "limits") ∧ IsL s1137P.1 (PySem.Str.ofString "tcb") ∧ IsL s1137P.1 (PySem.Str.ofString "book") ∧ IsL s1137P.1 (PySem.Str.ofString "flags") ∧ IsL s1137P.1 (PySem.Str.ofString "irs") ∧ IsL s1137P.1 (PySem.Str.ofString "turn") ∧ IsG s1137P.1 (PySem.Str.ofString "_law_pool") ∧ IsG s1137P.1 (PySem.Str.ofString "_law_limits") ∧ IsG s1137P.1 (PySem.Str.ofString "Limits") ∧ IsG s1137P.1 (PySem.Str.ofString "Tcb") ∧ IsG s1137P.1 (PySem.Str.ofString "_law_take") ∧ IsG s1137P.1 (PySem.Str.ofString "_law_clock_right") ∧ IsG s1137P.1 (PySem.Str.ofString "_law_segment_right") ∧ IsG s1137P.1 (PySem.Str.ofString "_law_one") ∧ IsG s1137P.1 (PySem.Str.ofString "Receiver") ∧ IsG s1137P.1 (PySem.Str.ofString "_law_round_right") ∧ IsG s1137P.1 (PySem.Str.ofString "range") ∧ True :=
  of_all (l := [((PySem.Str.ofString "script"), .local), ((PySem.Str.ofString "source"), .local), ((PySem.Str.ofString "ring"), .local), ((PySem.Str.ofString "most_here"), .local), ((PySem.Str.ofString "room"), .local), ((PySem.Str.ofString "first"), .local), ((PySem.Str.ofString "least"), .local), ((PySem.Str.ofString "most"), .local), ((PySem.Str.ofString "limits"), .local), ((PySem.Str.ofString "tcb"), .local), ((PySem.Str.ofString "book"), .local), ((PySem.Str.ofString "flags"), .local), ((PySem.Str.ofString "irs"), .local), ((PySem.Str.ofString "turn"), .local), ((PySem.Str.ofString "_law_pool"), .globalImplicit), ((PySem.Str.ofString "_law_limits"), .globalImplicit), ((PySem.Str.ofString "Limits"), .globalImplicit), ((PySem.Str.ofString "Tcb"), .globalImplicit), ((PySem.Str.ofString "_law_take"), .globalImplicit), ((PySem.Str.ofString "_law_clock_right"), .globalImplicit), ((PySem.Str.ofString "_law_segment_right"), .globalImplicit), ((PySem.Str.ofString "_law_one"), .globalImplicit), ((PySem.Str.ofString "Receiver"), .globalImplicit), ((PySem.Str.ofString "_law_round_right"), .globalImplicit), ((PySem.Str.ofString "range"), .globalImplicit)]) (by kernel_rfl)
end Mine
end PartNm
section PartGx
open PySem PySem.W PySem.Calls PyProof.Rows
open Sem (wp)
set_option Elab.async false
set_option maxRecDepth 100000
set_option maxHeartbeats 400000
namespace Mine
/-- the codes that hold a bytearray while they run -/
def holdIds : List String := ["bytearray.__contains__", "bytearray.__mod__", "bytearray.__rmod__", "_struct.pack_into.held", "bytearray.find.held"] ++ Builtin.Bytes.decodersThatHold
def holds : Code → Bool
  | .builtin id _ => holdIds.contains id
  | _ => false
def Free (Γ : Ctx) : Prop := ∀ x ∈ Γ.below, holds x.1 = false
def wpG {α : Type} (M : Model) (A : Around) (t : Sem α) (Q : α → Shared → Prop) (E : Value → Shared → Prop) (s : Shared) : Prop :=
  ∀ Γ p, Γ.In A → Free Γ → holds Γ.code = false → wp M Γ t (fun a _ s' => Q a s') (fun e _ s' => E e s') p s
def codeG (M : Model) (A : Around) (c : Code) (R : Result → Shared → Prop) (s : Shared) : Prop :=
  ∀ Γ p, Γ.code = c → Γ.Below A → Free Γ → wpCode M Γ R p s
section
variable {α β : Type} {M : Model} {A : Around} {E : Value → Shared → Prop} {s : Shared}
theorem wpG.of {t : Sem α} {Q : α → Shared → Prop} (h : wpAny M A t Q E s) : wpG M A t Q E s := fun Γ p i _ _ => h Γ p i
theorem codeG.of {c : Code} {R : Result → Shared → Prop} (h : codeAny M A c R s) : codeG M A c R s := fun Γ p c i _ => h Γ p c i
theorem wpG_mono {t : Sem α} {Q Q' : α → Shared → Prop} {E' : Value → Shared → Prop} (h : wpG M A t Q E s) (hQ : ∀ a s, Q a s → Q' a s) (hE : ∀ e s, E e s → E' e s) : wpG M A t Q' E' s :=
  fun Γ p i f c => Sem.wp_mono M Γ t (fun a _ s => hQ a s) (fun e _ s => hE e s) p s (h Γ p i f c)
theorem wpG_bind {m : Sem α} {f : α → Sem β} {Q : β → Shared → Prop} (h : wpG M A m (fun a s' => wpG M A (f a) Q E s') E s) : wpG M A (m >>= f) Q E s := fun Γ p i fr c => by
  rw [Sem.wp_bind']
  exact Sem.wp_mono M Γ m (fun a p' s' h' => h' Γ p' i fr c) (fun _ _ _ h' => h') p s (h Γ p i fr c)
theorem wpG_bindA {m : Sem α} {f : α → Sem β} {Q : β → Shared → Prop} (h : wpAny M A m (fun a s' => wpG M A (f a) Q E s') E s) : wpG M A (m >>= f) Q E s := wpG_bind (wpG.of h)
theorem wpG_pure {a : α} {Q : α → Shared → Prop} (h : Q a s) : wpG M A (pure a) Q E s := fun _ _ _ _ _ => h
theorem wpG_holding {vs : List Value} {m : Sem α} {Q : α → Shared → Prop} (h : wpG M A m Q E s) : wpG M A (holding vs m) Q E s := fun Γ p i f c => by rw [Sem.wp_holding]; exact h Γ p i f c
theorem wpG_keep {vs : List Value} {m : Sem α} {Q : α → Shared → Prop} (h : wpG M A m Q E s) : wpG M A (m.keep vs) Q E s := fun Γ p i f c => by rw [Sem.wp_keep]; exact h Γ p i f c
theorem wpG_onRaise {m : Sem α} {k : Value → Sem Unit} {Q : α → Shared → Prop} (h : wpG M A m Q (fun e s' => wpG M A (k e) (fun _ s'' => E e s'') E s') s) : wpG M A (m.onRaise k) Q E s := fun Γ p i f c => by
  rw [Sem.wp_onRaise]
  exact Sem.wp_mono M Γ m (fun _ _ _ h' => h') (fun e p' s' h' => h' Γ p' i f c) p s (h Γ p i f c)
theorem wpG_stackAny {f : Code × Pos → Bool} {Q : Bool → Shared → Prop} (hf : ∀ c p, holds c = false → f (c, p) = false) (h : Q false s) : wpG M A (do return (← stack).any f) Q E s := fun Γ p i fr c => by
  show Q (((Γ.code, p) :: Γ.below).any f) s
  have e : ((Γ.code, p) :: Γ.below).any f = false := by
    rw [List.any_eq_false]
    intro x hx
    rcases List.mem_cons.mp hx with rfl | hx
    · rw [hf _ _ c]; exact Bool.false_ne_true
    · rw [hf x.1 x.2 (fr x hx)]; exact Bool.false_ne_true
  rw [e]; exact h
theorem Free.enter {Γ : Ctx} (f : Free Γ) (c : holds Γ.code = false) (d : Code) (h : Option Value) (p : Pos) : Free (Γ.enter d h p) := fun x hx => by
  rcases List.mem_cons.mp (show x ∈ (Γ.code, p) :: Γ.below from hx) with rfl | hx
  · exact c
  · exact f x hx
theorem wpG_runValue {c : Code} {Q : Value → Shared → Prop} (hc : codeG M A c (fun r s' => match r with | .ok (.ret v) => Q v s' | .ok _ => False | .error e => E e s') s) : wpG M A (runValue c) Q E s :=
  fun Γ p i f d => by rw [Sem.wp_runValue]; exact hc _ p rfl (i.enter c none p (by intro x; cases x)) (f.enter d c none p)
theorem wpG_call {f : Value} {pos : List Value} {kw : List (Str × Value)} {Q : Value → Shared → Prop} (hc : codeG M A (.call f ⟨pos, kw⟩) (fun r s' => match r with | .ok (.ret v) => Q v s' | .ok _ => False | .error e => E e s') s) :
    wpG M A (call f pos kw) Q E s := wpG_runValue hc
theorem codeG_of_tree {c : Code} {R : Result → Shared → Prop} (hc : holds c = false)
    (h : wpG M (A.under c) (M.den c) (fun fin s' => match fin with | .done f => R (.ok f) s' | .again c' => c'.quiet = true ∧ codeG M A c' R s') (fun e s' => R (.error e) s') s) : codeG M A c R s := fun Γ p hcd hΓ f => by
  rw [wpCode_iff_wp, hcd]
  refine Sem.wp_mono M Γ _ (fun fin p' s' h' => ?_) (fun _ _ _ h' => h') p s (h Γ p (hcd ▸ hΓ.in) f (hcd ▸ hc))
  cases fin with
  | done f => exact h'
  | again c' => exact ⟨h'.1, h'.2 (Γ.goto c') p' rfl (hΓ.goto c') f⟩
variable {env : Env}
theorem wpG_execs_cons {st rest} {Q : Flow → Shared → Prop} (h : wpG M A (exec st env) (fun f s' => match f with | .next => wpG M A (execs rest env) Q E s' | f => Q f s') E s) : wpG M A (execs (st :: rest) env) Q E s := fun Γ p i fr c => by
  rw [execs_cons, Sem.wp_bind']
  refine Sem.wp_mono M Γ _ (fun f p' s' h' => ?_) (fun _ _ _ h' => h') _ _ (h Γ p i fr c)
  cases f <;> first | exact h' Γ p' i fr c | exact h'
theorem wpG_execs_consA {st rest} {Q : Flow → Shared → Prop} (h : wpAny M A (exec st env) (fun f s' => match f with | .next => wpG M A (execs rest env) Q E s' | f => Q f s') E s) : wpG M A (execs (st :: rest) env) Q E s := wpG_execs_cons (wpG.of h)
theorem wpG_Assign_Name {x pos' value pos} {Q : Flow → Shared → Prop} (h : wpG M A (eval value env) (fun v s₁ => wpAny M A (storeName env x v) (fun _ => Q .next) E s₁) E s)
    (hs : swapsWith value (some (.Name x pos')) pos.line env = pure false := by rfl) : wpG M A (exec (.Assign [.Name x pos'] value pos) env) Q E s := fun Γ p i fr c => by
  simp only [exec_Assign_Name env x pos' value pos hs, Sem.wp_bind', Sem.wp_cmd_standAt, Sem.wp_bindName, Sem.wp_pure']
  exact Sem.wp_mono M Γ _ (fun v _ s₁ h₁ => h₁ Γ _ i) (fun _ _ _ h' => h') _ _ (h Γ _ i fr c)
theorem wpG_standAt {pos : Pos} {Q : Unit → Shared → Prop} (h : Q () s) : wpG M A (standAt pos) Q E s := fun _ _ _ _ _ => h
theorem wpG_MethodCall {o : PySem.Expr} {name : PySem.Str} {apos pos : Pos} {args : List PySem.Expr} {pl : Sem Bool} {Q : Value → Shared → Prop}
    (h : wpAny M A (eval o env) (fun ov s₁ => wpAny M A (getMethod ov name pl) (fun fx s₂ => wpG M A (callWith pos fx.1 fx.2 (backTo pos (starEach args env)) []) Q E s₂) E s₁) E s)
    (he : eval (.Call (.Attribute o name apos) args [] pos) env = (do
      let ov ← eval o env
      standAt apos.atName
      let (f, first) ← holding [ov] (getMethod ov name pl)
      callWith pos f first (backTo pos (starEach args env)) []) := by rfl) :
    wpG M A (eval (.Call (.Attribute o name apos) args [] pos) env) Q E s := by
  rw [he]
  refine wpG_bindA (wpAny_mono h (fun ov s₁ h₁ => wpG_bindA (wpAny_standAt (wpG_bindA (wpAny_holding (wpAny_mono h₁ (fun fx s₂ h₂ => ?_) fun _ _ x => x))))) fun _ _ x => x)
  exact h₂
theorem wpG_callWith {K : Frag} {pos : Pos} {f : Value} {first : List Value} {Q : Value → Shared → Prop} {args : List (Bool × Sem Value)} (hplain : args.any (·.1) = false) (hk : keepIn K f = true)
    (h : wpAny M A (evalArgs f true args []) (fun a s₁ => K.In s₁.heap ∧ wpG M A (call f (first ++ a.pos) a.kw) Q E s₁) E s) : wpG M A (callWith pos f first args []) Q E s := by
  unfold callWith
  refine wpG_bindA (wpAny_holding (wpAny_mono h (fun a s₁ h₁ => wpG_bindA (wpAny_standAt ?_)) fun _ _ x => x))
  obtain ⟨k, hk', L⟩ := keeps_K (M := M) hk _ h₁.1
  simp only [hplain, List.any_nil, Bool.or_false]
  refine wpG_bindA (L.here ?_)
  have tail : ∀ {t : Sem Value}, wpG M A t Q E s₁ → wpG M A (t >>= fun r => holding [r] point >>= fun _ => pure r) Q E s₁ :=
    fun ht => wpG_bind (wpG_mono ht (fun r s₂ hr => wpG.of (wpAny_bind (wpAny_holding (wpAny_point (wpAny_pure hr))))) fun _ _ x => x)
  have marked (mk : Value) : wpG M A (callMarked mk f (first ++ a.pos) a.kw) Q E s₁ := by unfold callMarked; exact wpG_keep h₁.2
  rcases hk' with rfl | rfl | rfl <;> dsimp only <;> first | exact tail h₁.2 | (split <;> first | exact tail h₁.2 | exact tail (marked _))
end
section
variable {prog : Program} {w : World} {A : Around} {E : Value → Shared → Prop} {s : Shared} {R : Result → Shared → Prop}
theorem codeG_func {body env}
    (h : wpG (model prog w) (A.deeper env) (execs body env) (fun f s' => R (.ok (.ret (match f with | .ret v => v | _ => .none))) s')
      (fun e s' => wpAny (model prog w) (A.deeper env) (leaving env e) (fun _ s'' => R (.error e) s'') (fun e' s'' => R (.error e') s'') s') s) : codeG (model prog w) A (.func body env) R s := by
  refine codeG_of_tree rfl ?_
  show wpG _ (A.deeper env) (do point; match ← (execs body env).onRaise (leaving env) with | .ret v => ret v | _ => ret .none) _ _ s
  refine wpG_bindA (wpAny_point (wpG_bind (wpG_onRaise (wpG_mono h (fun f s' h' => ?_) fun _ _ h' => wpG.of h'))))
  cases f <;> exact wpG_pure h'
theorem codeG_call_function {a : Addr} {args : Args} {o : Obj} {fd : FuncData} {body : List Stmt} (hroom : A.depth < recursionLimit)
    (ho : s.heap.get? a = some o) (hd' : o.data = .func fd) (hco : fd.scope.isCoroutine = false) (hgen : fd.scope.isGenerator = false) (hbody : fd.body = .stmts body) (hcd : s.heap.CodeRec fd.code fd.qualname)
    (h : wpAny (model prog w) A.in1 (bindArgs fd args) (fun binds s₁ =>
      wpAny (model prog w) A.in1 (newFunctionEnv fd.scope fd.globals fd.closure binds (fd.qualname ++ ".<locals>.") (some a) fd.code none fd.builtins)
        (fun env s₂ => s₂.heap.NoLimit ∧ codeG (model prog w) A (.func body env) R s₂) (fun e s' => R (.error e) s') s₁) (fun e s' => R (.error e) s') s) :
    codeG (model prog w) A (.call (.ref a) args) R s := by
  refine codeG_of_tree rfl ?_
  show wpG _ A.in1 (callAny (.ref a) args) _ _ s
  simp only [callAny]
  refine wpG.of ?_
  refine wpAny_bind (wpAny_load ho ?_)
  obtain ⟨c, oc, vs, tq, hc, hoc, hdc, hq⟩ := hcd
  simp only [hd', callFunction, hco, hgen, hbody, hc]
  rw [hc] at h
  refine wpAny_bind (m := field (.ref c) 1) (wpAny_field hoc hdc hq (wpAny_bind (wpAny_pure ?_)))
  exact wpAny_bind (wpAny_mono h (fun binds s₁ h₁ => wpAny_bind (wpAny_mono h₁ (fun env s₂ h₂ => wpAny_bind (wpAny_enterFrame h₂.1 hroom
    (wpAny_pure (And.intro rfl h₂.2)))) fun _ _ h' => h')) fun _ _ h' => h')
theorem codeG_call_def {a : Addr} {o : Obj} {fd : FuncData} {body : List Stmt} {args : Args} {binds : List (PySem.Str × Value)}
    (hroom : A.depth < recursionLimit) (ho : s.heap.get? a = some o) (hdata : o.data = .func fd) (hlim : s.heap.NoLimit) (hcd : s.heap.CodeRec fd.code fd.qualname)
    (hbody : fd.body = .stmts body) (hbind : BindsTo s fd args binds)
    (hcell : ∀ x ∈ fd.scope.names, x.2 ≠ .cell) (hloc : ∀ x ∈ binds, fd.scope.names.lookup x.1 = some .local)
    (h : ∀ h₀, h₀.Ns s.heap.objs.size (fun x => binds.reverse.lookup x) → (∀ b o, s.heap.get? b = some o → h₀.get? b = some o) →
      wpG (model prog w) (A.deeper (callEnv fd s.heap.objs.size a)) (execs body (callEnv fd s.heap.objs.size a)) (fun f s' => R (.ok (.ret (match f with | .ret v => v | _ => .none))) s')
        (fun e s' => wpAny (model prog w) (A.deeper (callEnv fd s.heap.objs.size a)) (leaving (callEnv fd s.heap.objs.size a) e) (fun _ s'' => R (.error e) s'') (fun e' s'' => R (.error e') s'') s')
        { s with heap := h₀, toks := s.toks + binds.length })
    (hco : fd.scope.isCoroutine = false := by rfl) (hgen : fd.scope.isGenerator = false := by rfl) (hk : fd.scope.kind = .function := by rfl) : codeG (model prog w) A (.call (.ref a) args) R s := by
  refine codeG_call_function hroom ho hdata hco hgen hbody hcd (hbind _ _ _ _ ?_)
  refine wpAny_newFunctionEnv hcell hloc (fun h₀ hns₀ hsb₀ => ⟨hlim.fresh _ hsb₀, codeG_func (h h₀ hns₀ fun b o e => ?_)⟩) hk
  exact hsb₀.extBut b o (Nat.ne_of_lt (Heap.lt_size e)) (Heap.get?_push_of_some _ e)
theorem codeG_builtin {id : String} {args : Args} {b : Builtin} (hb : entryFor table id = some b) (hc : holdIds.contains id = false)
    (h : wpG (model prog w) (A.under (.builtin id args)) (b args) (fun fin s' => match fin with | .done f => R (.ok f) s' | .again c' => c'.quiet = true ∧ codeG (model prog w) A c' R s') (fun e s' => R (.error e) s') s) :
    codeG (model prog w) A (.builtin id args) R s := by
  refine codeG_of_tree hc ?_
  show wpG _ _ (match entryFor table id with | some b => b args | none => unsupported ((withoutEnding? id "#data").getD id)) _ _ s
  rw [hb]; exact h

end
end Mine
end PartGx
section PartBa
open PySem PySem.W PySem.Calls PyProof.Rows Builtin
open Sem (wp)
set_option Elab.async false
set_option maxRecDepth 100000
set_option maxHeartbeats 400000
namespace Mine
abbrev baO (b : Array UInt8) : Obj := { cls := .type "bytearray", data := .bytearray b 0 }
section
variable {M : Model} {A : Around} {E : Value → Shared → Prop} {s : Shared}
theorem wpG_if_true {α : Type} {c : Bool} {a b : Sem α} {Q : α → Shared → Prop} (hc : c = true) (h : wpG M A a Q E s) : wpG M A (if c = true then a else b) Q E s := by
  subst hc
  exact h
theorem wpG_if_false {α : Type} {c : Bool} {a b : Sem α} {Q : α → Shared → Prop} (hc : c = false) (h : wpG M A b Q E s) : wpG M A (if c = true then a else b) Q E s := by
  subst hc
  exact h
theorem holds_false {self : Value} {c : Code} {p : Pos} (h : Mine.holds c = false) : (match ((c, p) : Code × Pos) with
    | (.builtin "bytearray.__contains__" ⟨v :: _, _⟩, _) | (.builtin "bytearray.__mod__" ⟨v :: _, _⟩, _)
    | (.builtin "bytearray.__rmod__" ⟨_ :: v :: _, _⟩, _) | (.builtin "_struct.pack_into.held" ⟨v :: _, _⟩, _) => Bytes.sameRef v self
    | (.builtin "bytearray.find.held" ⟨_ :: _ :: held, _⟩, _) => held.any (Bytes.sameRef self)
    | (.builtin nm ⟨v :: _, _⟩, _) => Bytes.sameRef v self && Bytes.decodersThatHold.contains nm
    | _ => false) = false := by
  have no : ∀ (nm : String) (a : Args), c = .builtin nm a → holdIds.contains nm = true → False := fun nm a e q => by
    have : Mine.holds c = true := by rw [e]; exact q
    rw [h] at this
    cases this
  cases c with
  | builtin nm a =>
    have ne : ∀ s : String, holdIds.contains s = true → nm ≠ s := fun s hs e => no nm a rfl (e ▸ hs)
    have n1 := ne "bytearray.__contains__" (by decide +kernel)
    have n2 := ne "bytearray.__mod__" (by decide +kernel)
    have n3 := ne "bytearray.__rmod__" (by decide +kernel)
    have n4 := ne "_struct.pack_into.held" (by decide +kernel)
    have n5 := ne "bytearray.find.held" (by decide +kernel)
    have q : Bytes.decodersThatHold.contains nm = false := by
      cases hd : Bytes.decodersThatHold.contains nm with
      | false => rfl
      | true =>
        refine (no _ _ rfl ?_).elim
        unfold holdIds
        rw [List.contains_iff_mem] at hd ⊢
        exact List.mem_append_right _ hd
    unfold holds_false.match_1
    refine (dif_neg n1).trans ((dif_neg n2).trans ((dif_neg n3).trans ((dif_neg n4).trans ((dif_neg n5).trans ?_))))
    obtain ⟨pos, kw⟩ := a
    cases pos with
    | nil => rfl
    | cons v tl =>
      show (Bytes.sameRef v self && Bytes.decodersThatHold.contains nm) = false
      rw [q, Bool.and_false]
  | _ => rfl
theorem exported_G {self : Value} {Q : Bool → Shared → Prop} (h : Q false s) : wpG M A (Bytes.exported self) Q E s :=
  wpG_stackAny (fun c p hc => holds_false hc) h
theorem payload_ba {S : Addr} {b : Array UInt8} {Q : Array UInt8 → Shared → Prop} (hS : s.heap.get? S = some (baO b)) (h : Q b s) : wpAny M A (Bytes.payload (.ref S)) Q E s := by
  unfold Bytes.payload Bytes.payload?
  exact wpAny_bind (wpAny_bind (wpAny_load hS (wpAny_pure (wpAny_pure h))))
theorem exportsOf_ba {S : Addr} {b : Array UInt8} {Q : Nat → Shared → Prop} (hS : s.heap.get? S = some (baO b)) (h : Q 0 s) : wpAny M A (Bytes.exportsOf (.ref S)) Q E s := by
  unfold Bytes.exportsOf
  exact wpAny_bind (wpAny_load hS (wpAny_pure h))
theorem checkResize_G {S : Addr} {b : Array UInt8} {Q : Unit → Shared → Prop} (hS : s.heap.get? S = some (baO b)) (h : Q () s) : wpG M A (Bytes.checkResize (.ref S)) Q E s := by
  unfold Bytes.checkResize
  refine wpG_bind ?_
  show wpG M A (Bytes.exported (.ref S) >>= fun b => _) _ E s
  refine wpG_bind (exported_G ?_)
  show wpG M A (Bytes.exportsOf (.ref S) >>= fun n => _) _ E s
  refine wpG_bindA (exportsOf_ba hS ?_)
  exact wpG_pure (wpG_pure h)
theorem write_ba {S : Addr} {b : Array UInt8} {f : Array UInt8 → Array UInt8} {Q : Unit → Shared → Prop} (hS : s.heap.get? S = some (baO b)) (hz : (f b).size ≤ sizeLine)
    (h : Q () { s with heap := s.heap.update S (Obj.mapBytearray f) }) : wpAny M A (Bytes.write (.ref S) f) Q E s := by
  show wpAny _ _ (updateBytearray S f) _ _ _
  unfold updateBytearray
  refine wpAny_bind (wpAny_load hS ?_)
  show wpAny _ _ (update S (Obj.mapBytearray f) >>= fun _ => lookBehind S) _ _ _
  refine wpAny_bind (wpAny_update hS ?_)
  have hS₂ : (s.heap.update S (Obj.mapBytearray f)).get? S = some (baO (f b)) := Heap.get?_update_self (Obj.mapBytearray f) hS rfl
  refine wpAny_lookBehind hS₂ ?_ h
  show (if (f b).size > sizeLine then some "bytearray:memory" else none) = none
  rw [if_neg (Nat.not_lt.mpr hz)]
theorem take_eq {b : Array UInt8} {t : Tok} {id : String} : Bytes.takeBufferQuiet? id (.bytes b t) 0 = pure (some (b, none)) := by
  unfold Bytes.takeBufferQuiet? Bytes.takeBuffer?
  rw [KBy.special_eq KBy.look_buffer, KBy.own_buffer]
  have e : Bytes.buffer? id (.bytes b t) (full := (0 : Int) == Bytes.fullReadOnly) = pure (some b) := KBy.buffer_eq
  rw [e]
  kernel_rfl
theorem extend_G {S : Addr} {b c : Array UInt8} {t : Tok} {Q : Fin → Shared → Prop} (hS : s.heap.get? S = some (baO b)) (hz : b.size + c.size ≤ sizeLine)
    (h : Q (.done (.ret .none)) { s with heap := s.heap.update S (Obj.mapBytearray (· ++ c)) }) : wpG M A («bytearray.extend» ⟨[.ref S, .bytes c t], []⟩) Q E s := by
  unfold «bytearray.extend»
  refine wpG_bindA (wpAny_of_eq (a := (.ref S, .bytes c t)) rfl ?_)
  refine wpG_bindA (wpAny_of_eq (KBy.special_eq KBy.look_buffer) ?_)
  refine wpG_bindA (wpAny_rule ?_)
  refine wpG_bindA (payload_ba hS ?_)
  refine wpG_bindA (wpAny_of_eq take_eq ?_)
  show wpG _ _ (do if (!c.isEmpty) = true then Bytes.checkResize (.ref S)
                   Bytes.write (.ref S) (· ++ c)
                   ret .none) _ _ _
  have w : wpG M A (do Bytes.write (.ref S) (· ++ c); ret .none) Q E s := wpG_bindA (write_ba hS (by show (b ++ c).size ≤ _; rw [Array.size_append]; exact hz) (wpG_pure h))
  cases c.isEmpty
  · exact wpG_bind (checkResize_G hS w)
  · exact w
end
end Mine
end PartBa
section PartGy
open PySem PySem.W PySem.Calls PyProof.Rows
open Sem (wp)
set_option Elab.async false
set_option maxRecDepth 100000
set_option maxHeartbeats 400000
namespace Mine
section
variable {M : Model} {A : Around} {E : Value → Shared → Prop} {s : Shared} {env : Env}
theorem codeG_mono {c : Code} {R R' : Result → Shared → Prop} (h : codeG M A c R s) (hR : ∀ r s, R r s → R' r s) : codeG M A c R' s := fun Γ p hc hΓ f => wpCode_mono hR (h Γ p hc hΓ f)
theorem wpG_Assign_Attribute {o attr pos' value pos} {Q : Flow → Shared → Prop}
    (h : wpG M A (eval value env) (fun v s₁ => wpAny M A (eval o env) (fun ov s₂ => wpAny M A (setAttr ov attr v) (fun _ => Q .next) E s₂) E s₁) E s)
    (hs : swapsWith value (some (.Attribute o attr pos')) pos.line env = pure false := by rfl) :
    wpG M A (exec (.Assign [.Attribute o attr pos'] value pos) env) Q E s := fun Γ p hΓ f c => by
  simp only [plainObj_exec_Assign_Attribute o attr pos' value pos hs, assign_Attribute, Sem.wp_bind', Sem.wp_holding, Sem.wp_cmd_standAt, Sem.wp_release, Sem.wp_pure']
  exact Sem.wp_mono M Γ _ (fun v p₁ s₁ h₁ => Sem.wp_mono M Γ _ (fun ov _ s₂ h₂ => h₂ Γ _ hΓ) (fun _ _ _ h' => h') _ _ (h₁ Γ p₁ hΓ)) (fun _ _ _ h' => h') _ _ (h Γ _ hΓ f c)
theorem wpG_Call {func : PySem.Expr} {args : List PySem.Expr} {pos : Pos} {Q : Value → Shared → Prop}
    (h : wpAny M A (eval func env) (fun f s₁ => wpG M A (callWith pos f [] (backTo pos (starEach args env)) []) Q E s₁) E s)
    (he : eval (.Call func args [] pos) env = (do callWith pos (← eval func env) [] (backTo pos (starEach args env)) (backToKw pos (keywordEach [] env))) := by rfl) :
    wpG M A (eval (.Call func args [] pos) env) Q E s := by
  rw [he]; exact wpG_bindA h
theorem wpG_isTrue_not {x pos whole} {Q : Bool → Shared → Prop} (h : wpG M A (isTrue x env (eval x env)) (fun c s' => Q (!c) s') E s) : wpG M A (isTrue (.UnaryOp .Not x pos) env whole) Q E s := by
  show wpG M A (do return !(← isTrue x env (eval x env))) Q E s
  exact wpG_bind (wpG_mono h (fun c s' h' => wpG_pure h') fun _ _ x => x)
theorem wpG_isTrue_plain {e : PySem.Expr} {whole : Sem Value} {Q : Bool → Shared → Prop} (h : wpG M A whole (fun v s₁ => wpAny M A (truthy v) Q E s₁) E s)
    (he : isTrue e env whole = (do let v ← whole; standAt e.pos; holding [v] (truthy v)) := by rfl) : wpG M A (isTrue e env whole) Q E s := by
  rw [he]
  exact wpG_bind (wpG_mono h (fun v s₁ h₁ => wpG.of (wpAny_bind (wpAny_standAt (wpAny_holding h₁)))) fun _ _ x => x)
theorem wpG_If {test body orelse pos} {Q : Flow → Shared → Prop}
    (h : wpG M A (isTrue test env (eval test env)) (fun b s₂ => if b then wpG M A (execs body env) Q E s₂ else wpG M A (execs orelse env) Q E s₂) E s) :
    wpG M A (exec (.If test body orelse pos) env) Q E s := fun Γ p hΓ f c => by
  simp only [exec_If, Sem.wp_bind', Sem.wp_cmd_standAt]
  refine Sem.wp_mono M Γ _ (fun b p₂ s₂ h₂ => ?_) (fun _ _ _ h' => h') _ _ (h Γ _ hΓ f c)
  cases b <;> exact h₂ Γ p₂ hΓ f c
theorem wpG_execs_nil {Q : Flow → Shared → Prop} (h : Q .next s) : wpG M A (execs [] env) Q E s := wpG.of (wpAny_execs_nil h)
theorem wpG_callBuiltin {pos : Pos} {id : String} {first : List Value} {args : List (Bool × Sem Value)} {Q : Value → Shared → Prop} (hplain : args.any (·.1) = false)
    (h : wpAny M A (evalArgs (.builtin id) true args []) (fun a s₁ => wpG M A (call (.builtin id) (first ++ a.pos) a.kw) Q E s₁) E s) : wpG M A (callWith pos (.builtin id) first args []) Q E s := by
  unfold callWith
  refine wpG_bindA (wpAny_holding (wpAny_mono h (fun a s₁ h₁ => wpG_bindA (wpAny_standAt ?_)) fun _ _ x => x))
  simp only [hplain, List.any_nil, Bool.or_false]
  refine wpG_bindA (wpAny_pure ?_)
  exact wpG_bind (wpG_mono h₁ (fun r s₂ hr => wpG.of (wpAny_bind (wpAny_holding (wpAny_point (wpAny_pure hr))))) fun _ _ x => x)
end
section
variable {prog : Program} {w : World} {A : Around} {E : Value → Shared → Prop} {s : Shared}
theorem wpG_Expr {env : Env} {e pos} {Q : Flow → Shared → Prop} (h : wpG (model prog w) A (eval e env) (fun _ => Q .next) E s)
    (hi : interactive env = false := by rfl) (hs : swapsWith e none pos.line env = pure false := by rfl) : wpG (model prog w) A (exec (.Expr e pos) env) Q E s := by
  rw [exec_Expr env e pos hi hs]
  exact wpG_bindA (wpAny_standAt (wpG_bind (wpG_mono h (fun v s' h' => wpG.of (wpAny_dropValue h')) fun _ _ x => x)))
/-- the method extend of a bytearray -/
theorem slot_ba_extend : Slot "bytearray" "extend" "bytearray.extend" :=
  .of (owner := "bytearray") (n := "extend") (by rw [typeLookup_type, builtinLookup_eq_fast]; kernel_rfl) (by decide +kernel) (by decide +kernel) (by decide +kernel)
    (by first | exact .inl (by decide +kernel) | exact .inr (by decide +kernel)) (by rw [isSubtype_type]; kernel_rfl)
theorem type_ba_extend : typeOf (.builtin "bytearray.extend") = pure (.type "method_descriptor") := by show builtinType _ = _; rw [builtinType_eq_fast]; kernel_rfl
theorem entry_ba_extend : entryFor table "bytearray.extend" = some Builtin.«bytearray.extend» := by first | exact entryFor_of_fast (by kernel_rfl) | exact entryFor_of_tree (by kernel_rfl)
theorem args_ba_extend (a b : Value) : argsOk "bytearray.extend" ⟨[a, b], []⟩ := by
  unfold argsOk; kernel_rfl
end
end Mine
end PartGy
section PartBb
open PySem PySem.W PySem.Calls PyProof.Rows PyProof.V PySem.Spec
open Sem (wp)
set_option Elab.async false
set_option maxRecDepth 100000
set_option maxHeartbeats 400000
namespace Mine
theorem slot_ba_len : Slot "bytearray" "__len__" "bytearray.__len__" :=
  .of (owner := "bytearray") (n := "__len__") (by rw [typeLookup_type, builtinLookup_eq_fast]; kernel_rfl) (by decide +kernel) (by decide +kernel) (by decide +kernel)
    (by first | exact .inl (by decide +kernel) | exact .inr (by decide +kernel)) (by rw [isSubtype_type]; kernel_rfl)
theorem entry_ba_len : entryFor table "bytearray.__len__" = some Builtin.«bytearray.__len__» := by first | exact entryFor_of_fast (by kernel_rfl) | exact entryFor_of_tree (by kernel_rfl)
theorem args_ba_len (a : Value) : argsOk "bytearray.__len__" ⟨[a], []⟩ := by unfold argsOk; kernel_rfl
theorem slot_ba_getitem : Slot "bytearray" "__getitem__" "bytearray.__getitem__" :=
  .of (owner := "bytearray") (n := "__getitem__") (by rw [typeLookup_type, builtinLookup_eq_fast]; kernel_rfl) (by decide +kernel) (by decide +kernel) (by decide +kernel)
    (by first | exact .inl (by decide +kernel) | exact .inr (by decide +kernel)) (by rw [isSubtype_type]; kernel_rfl)
theorem entry_ba_getitem : entryFor table "bytearray.__getitem__" = some Builtin.«bytearray.__getitem__» := by first | exact entryFor_of_fast (by kernel_rfl) | exact entryFor_of_tree (by kernel_rfl)
theorem args_ba_getitem (a b : Value) : argsOk "bytearray.__getitem__" ⟨[a, b], []⟩ := by unfold argsOk; kernel_rfl
theorem ba_plain : PlainAttrs "bytearray" :=
  ⟨⟨"bytearray.__getattribute__", by rw [typeLookup_type, builtinLookup_eq_fast]; kernel_rfl, by decide +kernel⟩, by rw [typeLookup_type, builtinLookup_eq_fast]; kernel_rfl⟩
section
variable {prog : Program} {w : World} {A : Around} {E : Value → Shared → Prop} {s : Shared} {h₀ : Heap} {L : Addr} {m : PySem.Str → Option Value} {news news' : List (Addr × Obj)} {S : Addr} {b c : Array UInt8}
theorem ba_is (N : News h₀ L s.heap news) (hm : (S, baO b) ∈ news) : s.TypeIs (.ref S) "bytearray" := ⟨_, N.get hm, rfl⟩
theorem len_ba {Q : Value → Shared → Prop} (N : News h₀ L s.heap news) (hm : (S, baO b) ∈ news) (hz : b.size ≤ 16777216)
    (h : ∀ t k, Q (.int b.size t) { s with toks := k }) : wpAny (model prog w) A (call (.builtin "len") [.ref S]) Q E s := by
  refine call_len_slot (ba_is N hm) slot_ba_len (fun Q' q => wpAny_call_entry slot_ba_len (ba_is N hm) entry_ba_len ?_ (args_ba_len _)) (Int.not_lt.mpr (Int.natCast_nonneg _)) (by omega) (h _ _)
  show wpAny _ _ (Builtin.Bytes.payload (.ref S) >>= fun b => _) _ _ s
  refine wpAny_bind (payload_ba (N.get hm) ?_)
  exact wpAny_bind (wpAny_mkInt (wpAny_pure ⟨_, rfl, q⟩))
theorem getMethod_extend {pl : Sem Bool} {Q : Value × List Value → Shared → Prop} (N : News h₀ L s.heap news) (hm : (S, baO b) ∈ news) (h : Q (.builtin "bytearray.extend", [.ref S]) s) :
    wpAny (model prog w) A (getMethod (.ref S) "extend" pl) Q E s :=
  getMethod_builtin (ba_is N hm) ba_plain slot_ba_extend type_ba_extend (fun a e => by cases e; exact ⟨_, N.get hm, rfl⟩) h
theorem extend_K {t : Tok} {Q : Value → Shared → Prop} (F : Fr h₀ L s.heap m) (N : News h₀ L s.heap news) (U : Upd S (baO b) (baO (b ++ c)) news news') (hz : b.size + c.size ≤ 16777216)
    (h : ∀ h', Fr h₀ L h' m → News h₀ L h' news' → Q .none { s with heap := h' }) : wpG (model prog w) A (call (.builtin "bytearray.extend") [.ref S, .bytes c t]) Q E s := by
  obtain ⟨pre, post, rfl, rfl, x, y⟩ := U.split
  have z := N (S, baO b) (List.mem_append.mpr (.inr (.head _)))
  have r := news_upd (o' := baO (b ++ c)) (f := Obj.mapBytearray (· ++ c)) F N x y rfl rfl
  refine wpG_call (codeG_of_tree rfl ?_)
  show wpG _ A.in1 (do checkBuiltinCall "bytearray.extend" ⟨[.ref S, .bytes c t], []⟩; again (.builtin "bytearray.extend" ⟨[.ref S, .bytes c t], []⟩)) _ _ s
  refine wpG_bindA (slot_ba_extend.check _ _ _ _ _ _ _ _ ⟨_, z.1, rfl⟩ (args_ba_extend _ _) (wpG_pure ⟨plainId_quiet slot_ba_extend.plain _, codeG_builtin entry_ba_extend (by decide +kernel) ?_⟩))
  rw [Around.under_plainId slot_ba_extend.plain _]
  exact extend_G z.1 (by rw [sizeLine_eq]; exact hz) (h _ r.1 r.2)
/-- the part of a bytearray -/
theorem meets_ba (b : Array UInt8) (S a : Addr) {l u : Value} {lo hi : Option Int} (hl : IsPart l lo) (hu : IsPart u hi) :
    Meets (Builtin.«bytearray.__getitem__» ⟨[.ref S, .ref a], []⟩) (fun _ R s => s.heap.IsSliceOf a l u .none ∧ s.heap.get? S = some (baO b) ∧ (KBy.picked b lo hi).size ≤ sizeLine ∧ R (.ok (.ret (.ref s.heap.objs.size))) { s with heap := s.heap.push (baO (KBy.picked b lo hi)) }) := by
  refine .of_wp fun prog w A R s hS => ?_
  obtain ⟨⟨o, ho, hc, hd⟩, hb, hsz, h⟩ := hS
  have hT : s.TypeIs (.ref a) "slice" := ⟨o, ho, hc⟩
  show wpAny _ _ (Builtin.Bytes.subscript? (.ref a) >>= fun r => _) _ _ s
  refine wpAny_bind ?_
  unfold Builtin.Bytes.subscript?
  refine wpAny_bind (wpAny_specialOf hT slice_no_index (wpAny_pure ?_))
  refine wpAny_bind (wpAny_typeOf hT ?_)
  show wpAny _ _ (Builtin.Bytes.sliceParts (.ref a) >>= fun r => _) _ _ s
  refine wpAny_bind ?_
  unfold Builtin.Bytes.sliceParts
  refine wpAny_bind (wpAny_field (x := .none) ho hd rfl ?_)
  kby_none
  refine wpAny_ite (KBy.ite_no (show ¬ ((Value.none == rawInt 0) = true) from Bool.false_ne_true) ?_)
  refine wpAny_bind (wpAny_field (x := l) ho hd rfl ?_)
  have go : wpAny (model prog w) A.in1 (sliceIndices (rawPart lo) (rawPart hi) (rawPart none) b.size) (fun r s' => r = sliceBounds lo hi none b.size ∧ s' = s) (fun _ _ => False) s :=
    wpAny_of_eq (sliceIndices_raw lo hi none b.size (fun e => nomatch e)) ⟨rfl, rfl⟩
  cases hl <;> cases hu <;> (first
    | (kby_none; (refine wpAny_bind (wpAny_field (x := .none) ho hd rfl ?_)); kby_none)
    | (kby_none; (refine wpAny_bind (wpAny_field (x := .int _ _) ho hd rfl ?_)); kby_int)
    | (kby_int; (refine wpAny_bind (wpAny_field (x := .none) ho hd rfl ?_)); kby_none)
    | (kby_int; (refine wpAny_bind (wpAny_field (x := .int _ _) ho hd rfl ?_)); kby_int)) <;> refine wpAny_pure ?_
  all_goals
    show wpAny _ _ (Builtin.Bytes.payload (.ref S) >>= fun b => _) _ _ s
    refine wpAny_bind (payload_ba hb ?_)
    refine wpAny_bind (wpAny_mono go (fun r s' hr => ?_) fun _ _ e => e.elim)
    obtain ⟨hr1, hr2⟩ := hr
    subst hr1 hr2
    refine wpAny_bind ?_
    unfold Builtin.Bytes.newBytearray
    refine wpAny_newObj_type (wpAny_pure ⟨_, rfl, h⟩) hsz
theorem slice_ba {value slice : PySem.Expr} {l u : Value} {lo hi : Option Int} {Q : Value → Shared → Prop} (F : Fr h₀ L s.heap m) (N : News h₀ L s.heap news) (hm : (S, baO b) ∈ news) (hl : IsPart l lo) (hu : IsPart u hi) (hz : b.size ≤ 16777216)
    (h : ∀ D' h', Fr h₀ L h' m → News h₀ L h' ((D', baO (KBy.picked b lo hi)) :: news) → (∀ p ∈ news, p.1 < D') → Q (.ref D') { s with heap := h' })
    (hs : subscripted slice false (.ref S) (.ref s.heap.objs.size) = operate [.ref s.heap.objs.size, .ref S] (getItem (.ref S) (.ref s.heap.objs.size)) := by with_unfolding_all rfl)
    (ht : ∀ r, letTemporaryGo value (.ref S) r = pure () := by intro _; with_unfolding_all rfl) :
    wpAny (model prog w) A (subscriptTail value slice (.ref S) (.ref s.heap.objs.size)) Q E { s with heap := s.heap.push { cls := .type "slice", data := .fields #[l, u, .none] } } := by
  have hb : (s.heap.push { cls := .type "slice", data := .fields #[l, u, .none] }).get? S = some (baO b) := Heap.get?_push_of_some _ (N.get hm)
  refine tail_of_ItemOn ⟨"bytearray", _, slot_ba_getitem.lookup, ⟨_, hb, rfl⟩, getItem_meets ⟨_, hb, rfl⟩ (by decide) slot_ba_getitem entry_ba_getitem (args_ba_getitem _ _) (meets_ba b S _ hl hu)
    ⟨Heap.IsSliceOf.new _ _ _ _, hb, by rw [sizeLine_eq]; exact Nat.le_trans (KBc.size_picked_le b lo hi) hz, h _ _ ((F.push _).push _) ?_ fun p hp => ?_⟩⟩ hs ht
  · exact (News.pushKeep N _).push (F.push _) _
  · exact Nat.lt_of_lt_of_le (Heap.lt_size (N p hp).1) (by rw [Heap.size_push]; exact Nat.le_succ _)
end
end Mine
end PartBb
section PartBc
open PySem PySem.W PySem.Calls PyProof.Rows PyProof.V PySem.Spec
open Sem (wp)
set_option Elab.async false
set_option maxRecDepth 100000
set_option maxHeartbeats 400000
namespace Mine
theorem by_look_bytes : typeLookup (.type "bytes") "__bytes__" = pure (some (.builtin "bytes.__bytes__")) := by rw [typeLookup_type, builtinLookup_eq_fast]; kernel_rfl
theorem ba_no_bytes : typeLookup (.type "bytearray") "__bytes__" = pure none := by rw [typeLookup_type, builtinLookup_eq_fast]; kernel_rfl
theorem ba_no_index : typeLookup (.type "bytearray") "__index__" = pure none := by rw [typeLookup_type, builtinLookup_eq_fast]; kernel_rfl
theorem ba_buffer : typeLookup (.type "bytearray") "__buffer__" = pure (some (.builtin "bytearray.__buffer__")) := by rw [typeLookup_type, builtinLookup_eq_fast]; kernel_rfl
theorem ba_release : typeLookup (.type "bytearray") "__release_buffer__" = pure (some (.builtin "bytearray.__release_buffer__")) := by rw [typeLookup_type, builtinLookup_eq_fast]; kernel_rfl
theorem ba_sub : isSubtype (.type "bytearray") (.type "bytearray") = pure true := by rw [isSubtype_type]; kernel_rfl
section
variable {prog : Program} {w : World} {A : Around} {E : Value → Shared → Prop} {s : Shared} {h₀ : Heap} {L : Addr} {m : PySem.Str → Option Value} {news news' : List (Addr × Obj)} {S : Addr} {b c : Array UInt8}
/-- bytes(b) is b -/
theorem new_bytes {t : Tok} {R : Result → Shared → Prop} (h : R (.ok (.ret (.bytes b t))) s) :
    codeAny (model prog w) A (.call (.builtin "bytes.__new__") ⟨[.type "bytes", .bytes b t], []⟩) R s := by
  refine codeAny_of_tree ?_
  show wpAny _ A.in1 (do checkBuiltinCall "bytes.__new__" ⟨[.type "bytes", .bytes b t], []⟩; again (.builtin "bytes.__new__" ⟨[.type "bytes", .bytes b t], []⟩)) _ _ s
  refine wpAny_bind (wpAny_of_eq (F.bm_newCall _) (wpAny_pure ⟨plainId_quiet F.bm_plain _, codeAny_builtin F.bm_entry ?_⟩))
  rw [Around.under_plainId F.bm_plain _]
  unfold Builtin.«bytes.__new__»
  refine wpAny_bind (wpAny_of_eq (a := true) rfl ?_)
  refine bm_if_false rfl ?_
  refine wpAny_bind (wpAny_of_eq F.bm_sub ?_)
  refine bm_if_false rfl ?_
  refine wpAny_bind (wpAny_of_eq (F.bm_bind _) ?_)
  refine wpAny_bind (wpAny_of_eq (a := ()) rfl ?_)
  refine wpAny_bind (wpAny_of_eq (a := ()) rfl ?_)
  refine bm_if_false rfl ?_
  refine wpAny_bind (wpAny_of_eq (KBy.special_eq by_look_bytes) ?_)
  refine wpAny_bind (wpAny_rule ?_)
  refine wpAny_bind (wpAny_typeOf (typeIs_bytes s b t) ?_)
  refine bm_if_true (by decide) ?_
  show wpAny _ _ (if (Value.type "bytes" == Value.type "bytes") = true then _ else _) _ _ _
  refine bm_if_true (by decide) ?_
  first
    | exact wpAny_pure h
    | exact wpAny_bind (wpAny_pure (wpAny_pure h))
theorem call_bytes {t : Tok} {Q : Value → Shared → Prop} (h : Q (.bytes b t) s) : wpAny (model prog w) A (call (.type "bytes") [.bytes b t]) Q E s := by
  refine callType_codes (Q₁ := fun obj s₁ => s₁.TypeIs obj "bytes" ∧ Q obj s₁) F.bm_called (F.bm_typeCall _) F.entry_object_init (new_bytes ⟨PySem.W.typeIs_bytes _ _ _, h⟩) fun obj s₁ h₁ => ?_
  exact ⟨h₁.1, F.args_object_init_2 obj _, object_init_meets F.bm_called.init.lookup F.bm_called.made (by decide) prog w A.in1 _ s₁ ⟨h₁.1, rfl, h₁.2⟩⟩
theorem own_ba (hT : s.TypeIs (.ref S) "bytearray") {Q : Bool → Shared → Prop} (h : Q true s) : wpAny (model prog w) A (Builtin.Bytes.slotIsOwn (.ref S) "__buffer__") Q E s := by
  have key : ∀ x : String, x = "bytearray" → wpAny (model prog w) A (isInstance (.ref S) (.type x)) Q E s := fun x hx => by rw [hx]; exact wpAny_isInstance hT ba_sub h
  unfold Builtin.Bytes.slotIsOwn
  refine wpAny_bind (wpAny_specialOf hT ba_buffer ?_)
  dsimp only
  split
  · rename_i hx
    exact absurd hx (by decide +kernel)
  · exact key _ (by decide +kernel)
theorem release_ba (hT : s.TypeIs (.ref S) "bytearray") {Q : Bool → Shared → Prop} (h : Q false s) : wpAny (model prog w) A (Builtin.Bytes.ownRelease (.ref S)) Q E s := by
  have key : ∀ (x : String) {Q : Bool → Shared → Prop}, x = "bytearray" → Q true s → wpAny (model prog w) A (isInstance (.ref S) (.type x)) Q E s := fun x Q hx h => by rw [hx]; exact wpAny_isInstance hT ba_sub h
  unfold Builtin.Bytes.ownRelease Builtin.Bytes.slotIsOwn
  refine wpAny_bind (wpAny_bind (wpAny_specialOf hT ba_release ?_))
  dsimp only
  split
  · rename_i hx
    exact absurd hx (by decide +kernel)
  · exact key _ (by decide +kernel) (wpAny_pure h)
theorem new_bytes_ba {R : Result → Shared → Prop} (hb : s.heap.get? S = some (baO b)) (hz : b.size ≤ 16777216) (h : ∀ t k, R (.ok (.ret (.bytes b t))) { s with toks := k }) :
    codeAny (model prog w) A (.call (.builtin "bytes.__new__") ⟨[.type "bytes", .ref S], []⟩) R s := by
  have hT : s.TypeIs (.ref S) "bytearray" := ⟨_, hb, rfl⟩
  refine codeAny_of_tree ?_
  show wpAny _ A.in1 (do checkBuiltinCall "bytes.__new__" ⟨[.type "bytes", .ref S], []⟩; again (.builtin "bytes.__new__" ⟨[.type "bytes", .ref S], []⟩)) _ _ s
  refine wpAny_bind (wpAny_of_eq (F.bm_newCall _) (wpAny_pure ⟨plainId_quiet F.bm_plain _, codeAny_builtin F.bm_entry ?_⟩))
  rw [Around.under_plainId F.bm_plain _]
  unfold Builtin.«bytes.__new__»
  refine wpAny_bind (wpAny_of_eq (a := true) rfl ?_)
  refine bm_if_false rfl ?_
  refine wpAny_bind (wpAny_of_eq F.bm_sub ?_)
  refine bm_if_false rfl ?_
  refine wpAny_bind (wpAny_of_eq (F.bm_bind _) ?_)
  refine wpAny_bind (wpAny_of_eq (a := ()) rfl ?_)
  refine wpAny_bind (wpAny_of_eq (a := ()) rfl ?_)
  refine bm_if_false rfl ?_
  refine wpAny_bind (wpAny_specialOf hT ba_no_bytes ?_)
  refine wpAny_bind (wpAny_bind ?_)
  show wpAny _ _ (load S >>= _) _ _ _
  refine wpAny_bind (wpAny_load hb ?_)
  refine wpAny_pure (wpAny_pure ?_)
  refine bm_if_false rfl ?_
  refine wpAny_bind (wpAny_specialOf hT ba_no_index ?_)
  refine bm_if_true rfl ?_
  show wpAny _ _ (Builtin.Bytes.buffer? "bytes.__new__" (.ref S) true >>= _) _ _ _
  refine wpAny_bind ?_
  unfold Builtin.Bytes.buffer?
  refine wpAny_bind (wpAny_specialOf hT ba_buffer ?_)
  dsimp only
  refine wpAny_bind (own_ba hT ?_)
  refine bm_if_false rfl ?_
  refine wpAny_bind (wpAny_specialOf hT ba_buffer ?_)
  try dsimp only
  refine wpAny_bind (release_ba hT ?_)
  refine bm_if_false rfl ?_
  refine wpAny_bind (payload_ba hb ?_)
  refine wpAny_pure ?_
  dsimp only
  refine wpAny_bind (wpAny_rule ?_)
  refine wpAny_bind (wpAny_mkBytes ?_ (by rw [sizeLine_eq]; exact hz))
  show wpAny _ _ (if (Value.type "bytes" == Value.type "bytes") = true then _ else _) _ _ _
  refine bm_if_true (by decide) ?_
  first
    | exact wpAny_pure (h _ _)
    | exact wpAny_bind (wpAny_pure (wpAny_pure (h _ _)))
theorem bytes_ba {Q : Value → Shared → Prop} (N : News h₀ L s.heap news) (hm : (S, baO b) ∈ news) (hz : b.size ≤ 16777216) (h : ∀ t k, Q (.bytes b t) { s with toks := k }) :
    wpAny (model prog w) A (call (.type "bytes") [.ref S]) Q E s := by
  refine callType_codes (Q₁ := fun obj s₁ => s₁.TypeIs obj "bytes" ∧ Q obj s₁) F.bm_called (F.bm_typeCall _) F.entry_object_init (new_bytes_ba (N.get hm) hz fun t k => ⟨PySem.W.typeIs_bytes _ _ _, h t k⟩) fun obj s₁ h₁ => ?_
  exact ⟨h₁.1, F.args_object_init_2 obj _, object_init_meets F.bm_called.init.lookup F.bm_called.made (by decide) prog w A.in1 _ s₁ ⟨h₁.1, rfl, h₁.2⟩⟩
end
end Mine
end PartBc
section PartBd
open PySem PySem.W PySem.Calls PyProof.Rows PyProof.V PySem.Spec
open Sem (wp)
set_option Elab.async false
set_option maxRecDepth 100000
set_option maxHeartbeats 400000
namespace Mine
theorem rg_no_bytes : typeLookup (.type "range") "__bytes__" = pure none := by rw [typeLookup_type, builtinLookup_eq_fast]; kernel_rfl
theorem rg_no_index : typeLookup (.type "range") "__index__" = pure none := by rw [typeLookup_type, builtinLookup_eq_fast]; kernel_rfl
theorem rg_no_buffer : typeLookup (.type "range") "__buffer__" = pure none := by rw [typeLookup_type, builtinLookup_eq_fast]; kernel_rfl
theorem rg_split : splitId "range.__len__" = some ("range", "__len__") := by decide +kernel
theorem rg_sub : isSubtype (.type "range") (.type "range") = pure true := by rw [isSubtype_type]; kernel_rfl
section
variable {prog : Program} {w : World} {A : Around} {E : Value → Shared → Prop} {s : Shared}
theorem byr_loop {R : Result → Shared → Prop} {I S : Addr} (hh : A.handled = none) (hIS : I ≠ S) :
    ∀ (k : Nat) (x : Int) (b : Array UInt8) (s : Shared), 0 ≤ x → x + k ≤ 200 → b.size + k ≤ 200 → IsRangeIter s.heap I x k 1 → s.heap.get? S = some (baO b) →
      (∀ h' t k' c, c.size = b.size + k → (∀ b o, b ≠ I → b ≠ S → s.heap.get? b = some o → h'.get? b = some o) → R (.ok (.ret (.bytes c t))) { s with heap := h', toks := k' }) →
      codeAny (model prog w) A (.builtin "bytes.__new__.loop" ⟨[.type "bytes", .ref I, .ref S], []⟩) R s := by
  intro k
  induction k with
  | zero =>
    intro x b s hx hk hb hit hS hR
    refine codeAny_builtin F.bm_entry_loop ?_
    rw [Around.under_plainId F.bm_plain_loop _]
    show wpAny _ A.in1 (pyNext (.ref I) >>= _) _ _ s
    refine wpAny_bind (wpAny_pyNext_range_end hh hit (Int.le_refl _) fun h' he => ?_)
    have hS' : h'.get? S = some (baO b) := he S _ (Ne.symm hIS) hS
    refine wpAny_bind ?_
    unfold Builtin.Bytes.payload Builtin.Bytes.payload?
    refine wpAny_bind (wpAny_bind (wpAny_load hS' ?_))
    refine wpAny_pure (wpAny_pure ?_)
    refine wpAny_bind (wpAny_mkBytes ?_ (by rw [sizeLine_eq]; omega))
    show wpAny _ _ (if (Value.type "bytes" == Value.type "bytes") = true then _ else _) _ _ _
    refine bm_if_true (by decide) ?_
    first
      | exact wpAny_pure (hR h' _ _ b (Nat.add_zero _).symm fun b o hb _ e => he b o hb e)
      | exact wpAny_bind (wpAny_pure (wpAny_pure (hR h' _ _ b (Nat.add_zero _).symm fun b o hb _ e => he b o hb e)))
  | succ k ih =>
    intro x b s hx hk hb hit hS hR
    refine codeAny_builtin F.bm_entry_loop ?_
    rw [Around.under_plainId F.bm_plain_loop _]
    show wpAny _ A.in1 (pyNext (.ref I) >>= _) _ _ s
    refine wpAny_bind (wpAny_pyNext_range_item hit (by omega) fun h' hit' hs => ?_)
    have hS' : h'.get? S = some (baO b) := (hs.2 S (Ne.symm hIS)).trans hS
    refine wpAny_bind (wpAny_holding (wpAny_of_eq (rfl : asIndex (.int x s.toks) = pure x) ?_))
    refine wpAny_bind (wpAny_letGo ?_)
    refine bm_if_false (by simp only [Bool.or_eq_false_iff, decide_eq_false_iff_not]; omega) ?_
    refine wpAny_bind (write_ba hS' (by rw [Array.size_push, sizeLine_eq]; omega) ?_)
    have hS₂ : (h'.update S (Obj.mapBytearray (·.push x.toNat.toUInt8))).get? S = some (baO (b.push x.toNat.toUInt8)) := Heap.get?_update_self (Obj.mapBytearray (·.push x.toNat.toUInt8)) hS' rfl
    refine wpAny_pure ⟨plainId_quiet F.bm_plain_loop _, ih (x + 1) (b.push x.toNat.toUInt8) { s with heap := h'.update S (Obj.mapBytearray (·.push x.toNat.toUInt8)), toks := s.toks + 1 } (by omega) (by omega) (by rw [Array.size_push]; omega) ?_ hS₂ fun h3 t' k' c hc hk3 => ?_⟩
    · have e : ((k + 1 : Nat) : Int) - 1 = (k : Int) := by omega
      rw [e] at hit'
      exact (Heap.get?_update_other _ _ (Ne.symm hIS)).trans hit'
    · exact hR h3 t' k' c (by rw [hc, Array.size_push]; omega) fun b o hbI hbS e => hk3 b o hbI hbS ((Heap.get?_update_other _ _ (Ne.symm hbS)).trans ((hs.2 b hbI).trans e))
theorem byr_hint {r : Addr} {a b c : Int} {t u v : Tok} {n : Nat} {Q : Unit → Shared → Prop} (hr : IsRange s.heap r a b c t u v) (hn : Builtin.Range.rangeSize a b c = n) (hlen : n ≤ 200)
    (h : Q () { s with toks := s.toks + 1 + 1 }) : wpAny (model prog w) A (Builtin.Bytes.lengthHint "bytes.__new__" (.ref r)) Q E s := by
  unfold Builtin.Bytes.lengthHint
  refine wpAny_bind (wpAny_specialOf ⟨_, hr, rfl⟩ F.slot_range_len.lookup ?_)
  dsimp only
  rw [rg_split]
  dsimp only
  refine wpAny_bind (wpAny_isInstance (T := "range") (b := true) ⟨_, hr, rfl⟩ rg_sub ?_)
  refine bm_if_false rfl ?_
  refine bm_if_false (by decide +kernel) ?_
  refine bm_if_true rfl ?_
  refine wpAny_bind (wpAny_rule ?_)
  refine wpAny_bind (wpAny_attempt (call_len_range hr hn (by omega) ?_))
  have htl : Builtin.Bytes.tooLong ((n : Int).toNat) = false := KBy.tooLong_not (by omega)
  refine wpAny_bind (m := asInt? _) (wpAny_pure ?_)
  exact bm_if_false htl (wpAny_pure h)
theorem new_bytes_range {R : Result → Shared → Prop} {r : Addr} {b : Int} {t u v : Tok} {n : Nat} (hh : A.handled = none) (hr : IsRange s.heap r 0 b 1 t u v) (hb : b = n) (hlen : n ≤ 100)
    (h : ∀ h' t k c, c.size = n → (∀ b o, s.heap.get? b = some o → h'.get? b = some o) → R (.ok (.ret (.bytes c t))) { s with heap := h', toks := k }) :
    codeAny (model prog w) A (.call (.builtin "bytes.__new__") ⟨[.type "bytes", .ref r], []⟩) R s := by
  have hT : s.TypeIs (.ref r) "range" := ⟨_, hr, rfl⟩
  have hn : Builtin.Range.rangeSize 0 b 1 = n := by subst hb; unfold Builtin.Range.rangeSize; split <;> (try split) <;> omega
  have hsm : Builtin.Range.small 0 b 1 = true := by
    subst hb
    exact (by decide +kernel : ∀ i : Fin 101, Builtin.Range.small 0 (i.val : Int) 1 = true) ⟨n, by omega⟩
  refine codeAny_of_tree ?_
  show wpAny _ A.in1 (do checkBuiltinCall "bytes.__new__" ⟨[.type "bytes", .ref r], []⟩; again (.builtin "bytes.__new__" ⟨[.type "bytes", .ref r], []⟩)) _ _ s
  refine wpAny_bind (wpAny_of_eq (F.bm_newCall _) (wpAny_pure ⟨plainId_quiet F.bm_plain _, codeAny_builtin F.bm_entry ?_⟩))
  rw [Around.under_plainId F.bm_plain _]
  unfold Builtin.«bytes.__new__»
  refine wpAny_bind (wpAny_of_eq (a := true) rfl ?_)
  refine bm_if_false rfl ?_
  refine wpAny_bind (wpAny_of_eq F.bm_sub ?_)
  refine bm_if_false rfl ?_
  refine wpAny_bind (wpAny_of_eq (F.bm_bind _) ?_)
  refine wpAny_bind (wpAny_of_eq (a := ()) rfl ?_)
  refine wpAny_bind (wpAny_of_eq (a := ()) rfl ?_)
  refine bm_if_false rfl ?_
  refine wpAny_bind (wpAny_specialOf hT rg_no_bytes ?_)
  refine wpAny_bind (wpAny_bind ?_)
  show wpAny _ _ (load r >>= _) _ _ _
  refine wpAny_bind (wpAny_load hr ?_)
  refine wpAny_pure (wpAny_pure ?_)
  refine bm_if_false rfl ?_
  refine wpAny_bind (wpAny_specialOf hT rg_no_index ?_)
  refine bm_if_true rfl ?_
  show wpAny _ _ (Builtin.Bytes.buffer? "bytes.__new__" (.ref r) true >>= _) _ _ _
  refine wpAny_bind ?_
  unfold Builtin.Bytes.buffer?
  refine wpAny_bind (wpAny_specialOf hT rg_no_buffer ?_)
  refine wpAny_bind (wpAny_specialOf hT rg_no_buffer ?_)
  refine wpAny_pure ?_
  refine wpAny_bind (wpAny_tryCatch (wpAny_pyIter_range hr hsm ?_))
  rw [hn]
  refine wpAny_bind (wpAny_holding (byr_hint (n := n) (Heap.get?_push_of_some _ hr) hn (by omega) ?_))
  refine wpAny_bind ?_
  unfold Builtin.Bytes.newBytearray
  refine wpAny_newObj_type ?_ (Nat.zero_le _)
  have hsz : (s.heap.push { cls := .type "range_iterator", data := .fields #[rawInt 0, rawInt n, rawInt 1] }).objs.size = s.heap.objs.size + 1 := Heap.size_push _ _
  have main := byr_loop (prog := prog) (w := w) (A := A) (R := R) (I := s.heap.objs.size) (S := (s.heap.push { cls := .type "range_iterator", data := .fields #[rawInt 0, rawInt n, rawInt 1] }).objs.size) hh (by rw [hsz]; exact Nat.ne_of_lt (Nat.lt_succ_self _))
    n 0 #[] { s with heap := (s.heap.push { cls := .type "range_iterator", data := .fields #[rawInt 0, rawInt n, rawInt 1] }).push (baO #[]), toks := s.toks + 1 + 1 } (Int.le_refl _) (by omega) (by show 0 + n ≤ 200; omega)
    (Heap.get?_push_of_some _ (Heap.get?_push_size _ rfl)) (Heap.get?_push_size _ rfl)
    fun h' t k c hc hk => h h' t k c (by rw [hc]; exact Nat.zero_add _) fun b o e => hk b o (Nat.ne_of_lt (Heap.lt_size e)) (by rw [hsz]; exact Nat.ne_of_lt (Nat.lt_succ_of_lt (Heap.lt_size e))) (Heap.get?_push_of_some _ (Heap.get?_push_of_some _ e))
  first
    | exact wpAny_pure ⟨plainId_quiet F.bm_plain_loop _, main⟩
    | exact wpAny_pure (wpAny_pure ⟨plainId_quiet F.bm_plain_loop _, main⟩)
theorem bytes_range {h₀ : Heap} {L : Addr} {m : PySem.Str → Option Value} {news : List (Addr × Obj)} {Q : Value → Shared → Prop} {r : Addr} {b : Int} {t u v : Tok} (G : Fr h₀ L s.heap m) (N : News h₀ L s.heap news) (hh : A.handled = none) (hr : IsRange s.heap r 0 b 1 t u v) (hb : 0 ≤ b) (hlen : b ≤ 100)
    (h : ∀ h' t k c, (c.size : Int) = b → Fr h₀ L h' m → News h₀ L h' news → Q (.bytes c t) { s with heap := h', toks := k }) :
    wpAny (model prog w) A (call (.type "bytes") [.ref r]) Q E s := by
  refine callType_codes (Q₁ := fun obj s₁ => s₁.TypeIs obj "bytes" ∧ Q obj s₁) F.bm_called (F.bm_typeCall _) F.entry_object_init (new_bytes_range (n := b.toNat) hh hr (by omega) (by omega) fun h' t k c hc hk => ⟨PySem.W.typeIs_bytes _ _ _, h h' t k c (by omega) ?_ fun p hp => ⟨hk _ _ (N p hp).1, (N p hp).2⟩⟩) fun obj s₁ h₁ => ?_
  · obtain ⟨oL, es, ep, hL, q⟩ := G.ns
    exact ⟨⟨oL, es, ep, hk _ _ hL, q⟩, fun b o e => hk b o (G.keep b o e), G.above⟩
  · exact ⟨h₁.1, F.args_object_init_2 obj _, object_init_meets F.bm_called.init.lookup F.bm_called.made (by decide) prog w A.in1 _ s₁ ⟨h₁.1, rfl, h₁.2⟩⟩
end
end Mine
end PartBd
section PartBe
open PySem PySem.W PySem.Calls PyProof.Rows PyProof.V PySem.Spec
open Sem (wp)
set_option Elab.async false
set_option maxRecDepth 100000
set_option maxHeartbeats 400000
namespace Mine
theorem mro_ba : mroOf (.type "bytearray") = pure [.type "bytearray", .type "object"] := by rw [mroOf_type]; kernel_rfl
theorem lookup_ba_new : typeLookup (.type "bytearray") "__new__" = pure (some (.builtin "bytearray.__new__")) := by rw [typeLookup_type, builtinLookup_eq_fast]; kernel_rfl
theorem slot_ba_init : Slot "bytearray" "__init__" "bytearray.__init__" :=
  .of (owner := "bytearray") (n := "__init__") (by rw [typeLookup_type, builtinLookup_eq_fast]; kernel_rfl) (by decide +kernel) (by decide +kernel) (by decide +kernel)
    (by first | exact .inl (by decide +kernel) | exact .inr (by decide +kernel)) (by rw [isSubtype_type]; kernel_rfl)
theorem entry_ba_init : entryFor table "bytearray.__init__" = some Builtin.«bytearray.__init__» := by first | exact entryFor_of_fast (by kernel_rfl) | exact entryFor_of_tree (by kernel_rfl)
theorem args_ba_init (a : Value) : argsOk "bytearray.__init__" ⟨[a], []⟩ := by unfold argsOk; kernel_rfl
theorem called_ba : TypeCalled "bytearray" "bytearray.__new__" "bytearray.__init__" :=
  ⟨by decide +kernel, by decide +kernel, ⟨_, _, mro_ba⟩, madeBy_type mro_ba lookup_ba_new (by decide +kernel), by decide +kernel, by rw [isSubtype_type]; kernel_rfl, slot_ba_init⟩
theorem typeCall_ba : checkTypeCall "bytearray" ⟨[], []⟩ = pure () := by kernel_rfl
theorem newCall_ba : checkBuiltinCall "bytearray.__new__" ⟨[.type "bytearray"], []⟩ = pure () := by kernel_rfl
theorem entry_ba_new : entryFor table "bytearray.__new__" = some Builtin.«list.__new__» :=
  entryFor_alias (id' := "list.__new__") (by rw [fastTable_eq_tree]; kernel_rfl) (by decide +kernel) (by decide +kernel) (by rw [fastTable_eq_tree]; kernel_rfl)
set_option maxRecDepth 1000000 in
set_option maxHeartbeats 4000000 in
theorem owner_ba_new : ("bytearray.__new__".splitOn ".__new__").headD "" = "bytearray" := by rw [split_bytearray]; rfl
theorem init_bind : Builtin.Bytes.bindOptional "bytearray.__init__" "bytearray" ["source", "encoding", "errors"] [] [] = pure [none, none, none] := by kernel_rfl
section
variable {prog : Program} {w : World} {A : Around} {E : Value → Shared → Prop} {s : Shared}
theorem code_ba_new {Q₁ : Value → Shared → Prop} (h : Q₁ (.ref s.heap.objs.size) { s with heap := s.heap.push (baO #[]) }) :
    codeAny (model prog w) A (.call (.builtin "bytearray.__new__") ⟨[.type "bytearray"], []⟩) (wants Q₁ E) s := by
  refine codeAny_of_tree ?_
  show wpAny _ A.in1 (do checkBuiltinCall "bytearray.__new__" ⟨[.type "bytearray"], []⟩; again (.builtin "bytearray.__new__" ⟨[.type "bytearray"], []⟩)) _ _ s
  refine wpAny_bind (wpAny_of_eq newCall_ba (wpAny_pure ⟨plainId_quiet called_ba.plain _, codeAny_builtin_stack entry_ba_new rfl fun p st => ?_⟩))
  rw [Around.under_plainId called_ba.plain _]
  have hsub := ba_sub
  have hown := owner_ba_new
  obtain ⟨hp, g, d, tk, os⟩ := s
  simp only [hown]
  wp_walk
  exact h
theorem ba_init {S : Addr} {Q : Fin → Shared → Prop} (hb : s.heap.get? S = some (baO #[])) (h : ∀ h', Heap.SameBut S s.heap h' → h'.get? S = some (baO #[]) → Q (.done (.ret .none)) { s with heap := h' }) :
    wpG (model prog w) A (Builtin.«bytearray.__init__» ⟨[.ref S], []⟩) Q E s := by
  have hT : s.TypeIs (.ref S) "bytearray" := ⟨_, hb, rfl⟩
  unfold Builtin.«bytearray.__init__»
  dsimp only
  refine wpG_bindA (release_ba hT ?_)
  refine wpG_if_false rfl ?_
  refine wpG_bindA (wpAny_of_eq init_bind ?_)
  dsimp only
  refine wpG_bindA (wpAny_of_eq (a := ()) rfl ?_)
  refine wpG_bindA (wpAny_of_eq (a := ()) rfl ?_)
  refine wpG_bind ?_
  show wpG _ _ (Builtin.Bytes.exported (.ref S) >>= fun b => _) _ _ _
  refine wpG_bind (exported_G ?_)
  show wpG _ _ (Builtin.Bytes.exportsOf (.ref S) >>= fun n => _) _ _ _
  refine wpG_bindA (exportsOf_ba hb ?_)
  refine wpG_pure (wpG_if_false rfl ?_)
  refine wpG_bindA (write_ba hb (Nat.zero_le _) ?_)
  exact wpG_pure (h _ (Heap.SameBut.update ..) (Heap.get?_update_self (Obj.mapBytearray fun _ => #[]) hb rfl))
theorem call_ba {Q : Value → Shared → Prop} (h : ∀ h', Heap.SameBut s.heap.objs.size (s.heap.push (baO #[])) h' → h'.get? s.heap.objs.size = some (baO #[]) → Q (.ref s.heap.objs.size) { s with heap := h' }) :
    wpG (model prog w) A (call (.type "bytearray") []) Q E s := by
  have ft := called_ba
  obtain ⟨c, tl, hmro⟩ := ft.mro
  have hmade := ft.made
  have hsub := ft.sub
  have hct := typeCall_ba
  refine wpG_call (codeG_of_tree rfl ?_)
  show wpG _ _ (callAny (.type "bytearray") _) _ _ _
  refine wpG_pure ⟨Code.quiet_builtin _ (by decide +kernel), codeG_builtin F.entry_type_call (by decide +kernel) ?_⟩
  rw [Around.under_plain (weight_type_call_type "bytearray" [] []) rfl]
  have h1 := ft.notType
  have h2 := ft.canCreate
  unfold Builtin.«type.__call__»
  dsimp only
  refine wpG_if_false h1 ?_
  refine wpG_if_false h2 ?_
  refine wpG_bindA (wpAny_of_eq hct ?_)
  refine wpG_bindA (wpAny_of_eq hmro ?_)
  refine wpG_if_false rfl ?_
  refine wpG_bindA (wpAny_of_eq hmade ?_)
  dsimp only
  refine wpG_bindA (wpAny_pure ?_)
  refine wpG_bindA (wpAny_holding (wpAny_call (code_ba_new ?_)))
  have hb : (s.heap.push (baO #[])).get? s.heap.objs.size = some (baO #[]) := Heap.get?_push_size _ rfl
  have hT : ({ s with heap := s.heap.push (baO #[]) } : Shared).TypeIs (.ref s.heap.objs.size) "bytearray" := ⟨_, hb, rfl⟩
  refine wpG_bindA (wpAny_isInstance hT ba_sub ?_)
  refine wpG_if_false rfl ?_
  refine wpG_bind (wpG_holding ?_)
  unfold callSpecial?
  refine wpG_bindA (wpAny_specialOf hT slot_ba_init.lookup ?_)
  dsimp only
  refine wpG_holding ?_
  refine wpG_bindA (wpAny_of_eq (slot_ba_init.bind _) ?_)
  dsimp only
  refine wpG_bind (wpG_call (codeG_of_tree rfl ?_))
  show wpG _ (A.in1.in1) (do checkBuiltinCall "bytearray.__init__" ⟨[.ref s.heap.objs.size], []⟩; again (.builtin "bytearray.__init__" ⟨[.ref s.heap.objs.size], []⟩)) _ _ _
  refine wpG_bindA (slot_ba_init.check _ _ _ _ _ _ _ _ hT (args_ba_init _) (wpG_pure ⟨plainId_quiet slot_ba_init.plain _, codeG_builtin entry_ba_init (by decide +kernel) ?_⟩))
  rw [Around.under_plainId slot_ba_init.plain _]
  refine ba_init hb fun h' hs hb' => ?_
  refine wpG_pure ?_
  dsimp only
  refine wpG_if_false rfl ?_
  exact wpG_pure (h h' hs hb')
end
end Mine
end PartBe
section PartBf
open PySem PySem.W PySem.Calls PyProof.Rows
open Sem (wp)
set_option Elab.async false
set_option maxRecDepth 100000
set_option maxHeartbeats 400000
namespace Mine
theorem codeG_weaken {M : Model} {A A' : Around} {c : Code} {R : Result → Shared → Prop} {s : Shared} (hh : A.handled = A'.handled) (hd : A.depth ≤ A'.depth) (hf : ∀ l, A'.frames = some l → A.frames = some l)
    (hg : ∀ l, A'.guards = some l → A.guards = some l) (hu : A.units ≤ A'.units) (h : codeG M A' c R s) : codeG M A c R s :=
  fun Γ p hc hΓ fr => h Γ p hc ⟨hΓ.1.trans hh, Nat.le_trans hΓ.2.1 hd, fun l e => hΓ.2.2.1 l (hf l e), fun l e => hΓ.2.2.2.1 l (hg l e), Nat.le_trans hΓ.2.2.2.2 hu⟩ fr
/-- A contract upon a stack without decoders: f called with vs upon the objects of pre ends in a value and objects that post tells of; all else that g bears stays. -/
def SpG (w : World) (dp un : Nat) (f : Addr) (vs : List Value) (pre : List (Addr × Obj)) (post : Value → List (Addr × Obj) → Prop) : Prop :=
  ∀ (env : Env) (outer : List Env) (base g : Heap) (mean : ExcName → Option Value) (mg mb : Str → Option Value) (s : Shared) (R : Result → Shared → Prop),
    Below (AA dp un env outer) base (env :: outer) g → (K w.params).In g → Top qv (looseW qv loose) mean mg mb g →
    (∀ b o, g.get? b = some o → s.heap.get? b = some o) → g.objs.size ≤ s.heap.objs.size →
    (∀ p ∈ pre, s.heap.get? p.1 = some p.2 ∧ g.get? p.1 = none) → (pre.map (·.1)).Nodup →
    (∀ v news' h' tk', post v news' → (∀ b o, g.get? b = some o → h'.get? b = some o) → (∀ p ∈ news', h'.get? p.1 = some p.2 ∧ g.get? p.1 = none) → (news'.map (·.1)).Nodup →
      R (.ok (.ret v)) { s with heap := h', toks := tk' }) →
    codeG (model pp w) (AA dp un env outer) (.call (.ref f) ⟨vs, []⟩) R s

theorem SpG.useCode {w : World} {dp un : Nat} {f : Addr} {vs : List Value} {pre all rest : List (Addr × Obj)} {post : Value → List (Addr × Obj) → Prop} {A₀ A : Around} {base h₀ : Heap} {outer : List Env} {env : Env} {L : Addr} {m : Str → Option Value}
    {mean : ExcName → Option Value} {mg mb : Str → Option Value} {s : Shared} {R : Result → Shared → Prop}
    (C : SpG w dp un f vs pre post) (B : Below A₀ base outer h₀) (F : Fr h₀ L s.heap m) (X : (K w.params).In h₀) (N : News h₀ L s.heap all) (T : Top qv (looseW qv loose) mean mg mb h₀)
    (hA : A.frames = some (env :: outer)) (hf : env.frame = some L) (hke : env.scope.kind = .function) (hh : A.handled = none) (hd : A.depth ≤ dp) (hu : A.units ≤ un)
    (P : Pick pre all rest) (ND : (all.map (·.1)).Nodup)
    (ret : ∀ v news' h' tk', post v news' → Fr h₀ L h' m → News h₀ L h' (news' ++ rest) → ((news' ++ rest).map (·.1)).Nodup → R (.ok (.ret v)) { s with heap := h', toks := tk' }) :
    codeG (model pp w) A (.call (.ref f) ⟨vs, []⟩) R s := by
  have hperm := P.perm
  have ND' : ((pre ++ rest).map (·.1)).Nodup := (hperm.map _).nodup_iff.mpr ND
  have Npre : News h₀ L s.heap pre := fun p hp => N p (hperm.mem_iff.mp (List.mem_append_left _ hp))
  have Nrest : News h₀ L s.heap rest := fun p hp => N p (hperm.mem_iff.mp (List.mem_append_right _ hp))
  rw [List.map_append, List.nodup_append] at ND'
  obtain ⟨ndp, ndr, dis⟩ := ND'
  have nm : ∀ b o, h₀.get? b = some o → b ∉ pre.map (·.1) := fun b o e q => by
    obtain ⟨p, hp, rfl⟩ := List.mem_map.mp q
    rw [(Npre p hp).2.2] at e; cases e
  have st : h₀.StaysIn (hideAll s.heap (pre.map (·.1))) := fun b o e => hideAll_get _ (F.keep b o e) (nm b o e)
  obtain ⟨oL, es, ep, hL, hLd, hLk, hLf⟩ := F.ns
  have nL : L ∉ pre.map (·.1) := fun q => by
    obtain ⟨p, hp, e⟩ := List.mem_map.mp q
    exact (Npre p hp).2.1 e
  have hLg := hideAll_get (pre.map (·.1)) hL nL
  have B₁ := pushX B F hf hke
  have BG : Below (AA dp un env outer) base (env :: outer) (hideAll s.heap (pre.map (·.1))) := ⟨rfl, fun b o e => st b o (B.stays b o e), funFrames_hideAll B₁.frames fun env' he b hb hf' => by
    cases he with
    | head => exact nL ((Option.some.inj (hf.symm.trans hf') : L = b) ▸ hb)
    | tail _ he =>
      obtain ⟨L₁, o₁, hf₁, ho₁⟩ := funFrames_in B.frames env' he
      rw [hf₁] at hf'
      exact nm L₁ o₁ ho₁ ((Option.some.inj hf' : L₁ = b) ▸ hb)⟩
  have restG : ∀ q ∈ rest, (hideAll s.heap (pre.map (·.1))).get? q.1 = some q.2 := fun q hq => by
    refine hideAll_get _ (Nrest q hq).1 fun hm => ?_
    exact dis _ hm _ (List.mem_map_of_mem hq) rfl
  refine codeG_weaken (A' := AA dp un env outer) hh hd (fun l e => by rw [hA]; exact e) (fun l e => nomatch e) hu ?_
  have g1 : ∀ b o, (hideAll s.heap (pre.map (·.1))).get? b = some o → s.heap.get? b = some o := fun b o e => of_hideAll _ e
  have g2 : (hideAll s.heap (pre.map (·.1))).objs.size ≤ s.heap.objs.size := Nat.le_of_eq (hideAll_size _ _)
  have g3 : ∀ p ∈ pre, s.heap.get? p.1 = some p.2 ∧ (hideAll s.heap (pre.map (·.1))).get? p.1 = none := fun p hp => ⟨(Npre p hp).1, hideAll_none _ (List.mem_map_of_mem hp)⟩
  refine C env outer base _ mean mg mb s R BG (X.keeps st) (T.keeps st) g1 g2 g3 ndp fun v news' h' tk' hpost hk hn hnd => ?_
  refine ret v news' h' tk' hpost ⟨⟨oL, es, ep, hk L oL hLg, hLd, hLk, hLf⟩, fun b o e => hk b o (st b o e), F.above⟩ (fun p hp => ?_) ?_
  · rcases List.mem_append.mp hp with hp | hp
    · refine ⟨(hn p hp).1, fun q => ?_, ?_⟩
      · have := (hn p hp).2; rw [q, hLg] at this; cases this
      · cases q : h₀.get? p.1 with
        | none => rfl
        | some o => have := (hn p hp).2; rw [st _ _ q] at this; cases this
    · exact ⟨hk _ _ (restG p hp), (Nrest p hp).2⟩
  · rw [List.map_append, List.nodup_append]
    refine ⟨hnd, ndr, fun a ha b hb e => ?_⟩
    obtain ⟨p, hp, rfl⟩ := List.mem_map.mp ha
    obtain ⟨q, hq, rfl⟩ := List.mem_map.mp hb
    have h1 := (hn p hp).2
    rw [e, restG q hq] at h1
    cases h1

theorem SpG.use {w : World} {dp un : Nat} {f : Addr} {vs : List Value} {pre all rest : List (Addr × Obj)} {post : Value → List (Addr × Obj) → Prop} {A₀ A : Around} {base h₀ : Heap} {outer : List Env} {env : Env} {L : Addr} {m : Str → Option Value}
    {mean : ExcName → Option Value} {mg mb : Str → Option Value} {s : Shared} {Q E : Value → Shared → Prop}
    (C : SpG w dp un f vs pre post) (B : Below A₀ base outer h₀) (F : Fr h₀ L s.heap m) (X : (K w.params).In h₀) (N : News h₀ L s.heap all) (T : Top qv (looseW qv loose) mean mg mb h₀)
    (hA : A.frames = some (env :: outer)) (hf : env.frame = some L) (hke : env.scope.kind = .function) (hh : A.handled = none) (hd : A.depth ≤ dp) (hu : A.units ≤ un)
    (P : Pick pre all rest) (ND : (all.map (·.1)).Nodup)
    (ret : ∀ v news' h' tk', post v news' → Fr h₀ L h' m → News h₀ L h' (news' ++ rest) → ((news' ++ rest).map (·.1)).Nodup → Q v { s with heap := h', toks := tk' }) :
    wpG (model pp w) A (call (.ref f) vs) Q E s :=
  wpG_call (C.useCode B F X N T hA hf hke hh hd hu P ND fun v news' h' tk' a b c d => ret v news' h' tk' a b c d)

theorem SpG.enter {w : World} {dp un : Nat} {f : Addr} {vs : List Value} {pre : List (Addr × Obj)} {post : Value → List (Addr × Obj) → Prop}
    {name qual : Str} {params : Arguments} {body : List Stmt} {scope : Scope} {dV kV doc pm cdv ct oc : Value} {an od : Option Addr} {osl : Array (Option Value)} {binds : List (Str × Value)}
    (ho : (K w.params).lookup f = some ⟨oc, od, .func (fnOf name qual params body scope dV kV doc pm an cdv ct), osl⟩) (hcd : codeIn (K w.params) cdv qual = true) (hroom : dp < recursionLimit)
    (hbind : ∀ s : Shared, (K w.params).In s.heap → BindsTo s (fnOf name qual params body scope dV kV doc pm an cdv ct) ⟨vs, []⟩ binds) (hloc : ∀ y ∈ binds, scope.names.lookup y.1 = some .local)
    (h : ∀ (env : Env) (outer : List Env) (base g : Heap) (mean : ExcName → Option Value) (mg mb : Str → Option Value) (L' : Addr) (h₁ : Heap) (s : Shared) (Q : Value → Shared → Prop) (E : Value → Shared → Prop),
      Below (AA dp un env outer) base (env :: outer) g → (K w.params).In g → Top qv (looseW qv loose) mean mg mb g → Fr g L' h₁ (fun y => binds.reverse.lookup y) → News g L' h₁ pre → (pre.map (·.1)).Nodup →
      (∀ v news' h' tk' m', post v news' → Fr g L' h' m' → News g L' h' news' → (news'.map (·.1)).Nodup → Q v { s with heap := h', toks := tk' }) →
      wpG (model pp w) ((AA dp un env outer).deeper (envOf qual scope L' f cdv)) (execs body (envOf qual scope L' f cdv)) (fun fl s' => Q (match fl with | .ret v => v | _ => .none) s')
        (fun e s' => wpAny (model pp w) ((AA dp un env outer).deeper (envOf qual scope L' f cdv)) (leaving (envOf qual scope L' f cdv) e) (fun _ s'' => E e s'') (fun e' s'' => E e' s'') s')
        { s with heap := h₁, toks := s.toks + binds.length })
    (hco : scope.isCoroutine = false := by rfl) (hgen : scope.isGenerator = false := by rfl) (hk : scope.kind = .function := by rfl) (hcell : ∀ x ∈ scope.names, x.2 ≠ .cell := by decide) :
    SpG w dp un f vs pre post := by
  intro env outer base g mean mg mb s R B X T keep size hpre nd ret
  have X' : (K w.params).In s.heap := X.keeps keep
  refine codeG_call_def (fd := fnOf name qual params body scope dV kV doc pm an cdv ct) (body := body) (binds := binds) hroom (X' _ _ ho) rfl (T.nolimit.keeps keep) (codeRec_of X' hcd) rfl (hbind s X') hcell hloc (fun h₁ hns hk₁ => ?_) hco hgen hk
  refine wpG_mono (h env outer base g mean mg mb s.heap.objs.size h₁ s (fun v s' => R (.ok (.ret v)) s') (fun e s' => R (.error e) s') B X T ⟨hns, fun b o e => hk₁ b o (keep b o e), size⟩
    (fun p hp => ⟨hk₁ _ _ (hpre p hp).1, Nat.ne_of_lt (Heap.lt_size (hpre p hp).1), (hpre p hp).2⟩) nd fun v news' h' tk' m' hpost F' N' nd' => ?_) (fun _ _ y => y) fun _ _ y => y
  exact ret v news' h' tk' hpost F'.keep (fun p hp => ⟨(N' p hp).1, (N' p hp).2.2⟩) nd'

section
variable {prog : Program} {w : World} {A : Around} {E : Value → Shared → Prop} {s : Shared} {h₀ : Heap} {L : Addr} {m : PySem.Str → Option Value} {news news' : List (Addr × Obj)} {K : Frag} {C : Addr} {R : Result → Shared → Prop}
theorem call_ba_K {Q : Value → Shared → Prop} (F : Fr h₀ L s.heap m) (N : News h₀ L s.heap news)
    (h : ∀ D' h', Fr h₀ L h' m → News h₀ L h' ((D', baO #[]) :: news) → (∀ p ∈ news, p.1 < D') → Q (.ref D') { s with heap := h' }) : wpG (model prog w) A (call (.type "bytearray") []) Q E s := by
  have N' := N.push F (baO #[])
  have z := N' (_, baO #[]) (.head _)
  refine call_ba fun h' hs hb => h _ h' ((F.push _).change hs z.2.1 z.2.2) (fun p hp => ?_) fun p hp => Heap.lt_size (N p hp).1
  rcases List.mem_cons.mp hp with rfl | hp
  · exact ⟨hb, z.2⟩
  · exact ⟨(hs.2 p.1 (Nat.ne_of_lt (Heap.lt_size (N p hp).1))).trans (N' p (.tail _ hp)).1, (N p hp).2⟩
end
section
variable {prog : Program} {w : World} {A : Around} {K : Frag} {C : Addr} {R : Result → Shared → Prop} {h : Heap} {g : Array GenState} {d : Drawn} {t : Nat} {os : OsState}
theorem make_coreG {rest : List Value} {kw : List (PySem.Str × Value)} {init : Value} (Y : Makes (model prog w) h C) (hi : Looks (model prog w) h (typeLookup (.ref C) "__init__") (some init))
    (hb : ∀ self, Looks (model prog w) h (bindSpecial init self) (init, [self])) (hne : (some init != some (Value.builtin "object.__init__")) = true ∨ (rest = [] ∧ kw = []))
    (hq : codeG (model prog w) (A.under (.builtin "type.__call__" ⟨.ref C :: rest, kw⟩)) (.call init ⟨.ref (h.objs.size + 1) :: rest, kw⟩) (InitBack (h.objs.size + 1) R) ⟨(h.push emptyDict).push (instObj C h.objs.size), g, d, t, os⟩) :
    codeG (model prog w) A (.call (.ref C) ⟨rest, kw⟩) R ⟨h, g, d, t, os⟩ := by
  have Y' := Y
  obtain ⟨⟨oc, od, cd, sl, hC, e1, e2, e4⟩, made, base, self, top, call, typ⟩ := Y
  refine codeG_of_tree rfl (wpG.of ?_)
  show wpAny _ _ (callAny (.ref C) _) _ _ _
  refine nd_load hC ?_
  show wpAny _ _ (callAny.viaDunder (.ref C) _) _ _ _
  unfold callAny.viaDunder
  refine wpAny_bind (call.at ?_)
  dsimp only
  rw [tc_bind]
  refine wpAny_bind (wpAny_pure (wpAny_bind (wpAny_pure ?_)))
  refine wpAny_pure (a := Fin.again (.call (.builtin "type.__call__") ⟨.ref C :: rest, kw⟩)) (And.intro rfl ?_)
  refine codeG_of_tree rfl ?_
  show wpG _ A.in1 (do checkBuiltinCall "type.__call__" ⟨.ref C :: rest, kw⟩; again (.builtin "type.__call__" ⟨.ref C :: rest, kw⟩)) _ _ _
  refine wpG_bindA (check_slot tc_kind tc_split typ (tc_args _ _ _) (wpG_pure ⟨Code.quiet_builtin _ (by decide +kernel), codeG_builtin entry_typeCall (by decide +kernel) ?_⟩))
  unfold Builtin.«type.__call__»
  dsimp only
  have hm : Looks (model prog w) h (mroOf (.ref C)) cd.mro := ((Looks.ld (part := none) hC).andThen .now).andThen .now
  refine wpG_if_false rfl ?_
  refine wpG_bindA (hm.at ?_)
  refine wpG_if_false e4 ?_
  refine wpG_bindA (made.at ?_)
  dsimp only
  refine wpG_bindA (wpAny_pure ?_)
  refine wpG_bindA (wpAny_holding (wpAny_call (new_K Y' hi hne ?_)))
  have k : ∀ b o, h.get? b = some o → ((h.push emptyDict).push (instObj C h.objs.size)).get? b = some o := fun b o e => Heap.get?_push_of_some _ (Heap.get?_push_of_some _ e)
  have hx : ((h.push emptyDict).push (instObj C h.objs.size)).get? (h.objs.size + 1) = some (instObj C h.objs.size) := by heap_get
  have t1 : Looks (model prog w) ((h.push emptyDict).push (instObj C h.objs.size)) (typeOf (.ref (h.objs.size + 1))) (.ref C) := (Looks.ld hx).andThen .now
  have s1 := self.keeps k
  have i1 := hi.keeps k
  have b1 := (hb (.ref (h.objs.size + 1))).keeps k
  dsimp only
  refine wpG_bindA ?_
  unfold isInstance
  refine wpAny_bind (t1.at (s1.at ?_))
  refine wpG_if_false rfl ?_
  refine wpG_bind (wpG_holding ?_)
  unfold callSpecial? specialOf
  refine wpG_bindA (wpAny_bind (t1.at (i1.at ?_)))
  dsimp only
  refine wpG_holding ?_
  refine wpG_bindA (b1.at ?_)
  dsimp only
  refine wpG_bind (wpG_call (codeG_mono hq fun r s' z => ?_))
  rcases r with e | (v | _ | _ | _) <;> first | exact z | exact z.elim | skip
  obtain ⟨rfl, z⟩ := z
  refine wpG_pure ?_
  dsimp only
  refine wpG_if_false rfl ?_
  exact wpG_pure z
end
section
variable {prog : Program} {w : World} {A : Around} {K : Frag} {C x : Addr} {s : Shared} {h₀ : Heap} {L : Addr} {m : PySem.Str → Option Value} {news : List (Addr × Obj)} {R : Result → Shared → Prop}

end
theorem SpG.mono {w : World} {dp un : Nat} {f : Addr} {vs : List Value} {pre : List (Addr × Obj)} {post post' : Value → List (Addr × Obj) → Prop} (C : SpG w dp un f vs pre post) (h : ∀ v nl, post v nl → post' v nl) : SpG w dp un f vs pre post' :=
  fun env outer base g mean mg mb s R B X T k sz hp nd r => C env outer base g mean mg mb s R B X T k sz hp nd fun v n h' t p => r v n h' t (h v n p)
end Mine
end PartBf
section PartBg
open PySem PySem.W PySem.Calls PyProof.Rows
open Sem (wp)
set_option Elab.async false
set_option maxRecDepth 100000
set_option maxHeartbeats 400000
namespace Mine
open PySem.W
theorem wp_of_wpG_done {M : Model} {A : Around} {Γ : Ctx} {t : Sem PySem.Fin} {R : Result → Shared → Prop} {s : Shared} (hin : Γ.In A) (hf : Free Γ) (hc : Mine.holds Γ.code = false)
    (h : wpG M A t (fun fin s' => ∃ f, fin = .done f ∧ R (.ok f) s') (fun e s' => R (.error e) s') s) (p : Pos) :
    wp M Γ t (Sem.finPost M Γ R) (fun e _ s' => R (.error e) s') p s := by
  refine Sem.wp_mono M Γ t (fun fin p' s' h' => ?_) (fun _ _ _ h' => h') p s (h Γ p hin hf hc)
  obtain ⟨f, rfl, hf⟩ := h'
  exact hf
theorem caller_free : Free ⟨.builtin "claim.caller" {}, none, none, [], none⟩ := fun _ h => nomatch h
theorem thread_endsF {prog : Program} {w : World} {t : Sem Fin} {s : Shared} {R : Result → Shared → Prop} (hreg : s.asleep)
    (h : wpG (model prog w) callerA t (fun fin s' => ∃ f, fin = .done f ∧ (R (.ok f) s' ∧ leftWithCleanup s'.gens = false)) (fun e s' => R (.error e) s' ∧ leftWithCleanup s'.gens = false) s) :
    ∃ n r s' s'', runN (denote table) prog w n s ⟨t, .builtin "claim.caller" {}, default, []⟩ = .halted (outcomeOf r) s' ∧
      schedN (denote table) prog w n (.single s ⟨t, .builtin "claim.caller" {}, default, []⟩) = .halted (outcomeOf r) s' ∧ s'.forget = s''.forget ∧ R r s'' := by
  obtain ⟨n, r, s₁, s₂, hs, hn, hfo, hR⟩ := wp_halts_full (M := model prog w) (R := R) hreg (wp_of_wpG_done (R := fun r s' => R r s' ∧ leftWithCleanup s'.gens = false) caller_in caller_free (by decide +kernel) h default)
  exact ⟨n, r, s₂, s₁, hn, hs, hfo, hR⟩
theorem callFromF {c : ClaimW} {tree : List Value → Sem Fin} {w : World} {s : Shared} {free : Addr → Prop} {gens : Prop} {kept : Heap → Prop} (hz : s.asleep) (hgens : s.gens = #[])
    (hspec : ∀ args, c.pre args = true → WData.layableAll args = true →
      ∀ ord : List DictEntry → List DictEntry, (∀ l, (ord l).Perm l) →
      ∃ vs s₁, layAllW c.records (classAt s.heap) w.params ord args s = some (vs, s₁) ∧
        wpG (model c.prog w) callerA (tree vs) (fun fin s' => ∃ f, fin = .done f ∧ (c.Ends s args vs s₁ (.ok f) s' ∧ s'.os = s.os ∧ AllBare s'.gens ∧ kept s'.heap))
          (fun e s' => c.Ends s args vs s₁ (.error e) s' ∧ s'.os = s.os ∧ AllBare s'.gens ∧ kept s'.heap) s₁) :
    c.CallFrom (fun vs => ⟨tree vs, .builtin "claim.caller" {}, default, []⟩) w free gens kept s := by
  intro args hpre hlay ord hord
  refine Classical.byContradiction fun hG => ?_
  obtain ⟨vs, s₁, hlaid, hcode⟩ := hspec args hpre hlay ord hord
  have hal := layAllW_rest _ _ _ hlaid
  obtain ⟨k, r, s', s'', hrun, hsched, hfo, hcase, hos, hkp⟩ := thread_endsF (prog := c.prog) (w := w) (t := tree vs) (s := s₁)
    (R := fun r s' => c.Ends s args vs s₁ r s' ∧ s'.os = s.os ∧ kept s'.heap)
    (Shared.asleep_of_life hal.2.2.2 hz)
    (wpG_mono hcode (by
      rintro fin s' ⟨f, e, h1, h2, h3, h4⟩
      exact ⟨f, e, ⟨h1, h2, h4⟩, leftWithCleanup_false_of_bare h3⟩) (by
      rintro e s' ⟨h1, h2, h3, h4⟩
      exact ⟨⟨h1, h2, h4⟩, leftWithCleanup_false_of_bare h3⟩))
  obtain ⟨eh, _, _, eo, _⟩ := Shared.forget_eq hfo
  have hcase := hcase.congr eh
  have hkp : kept s'.heap := by first | exact eh ▸ hkp | (rw [eh] at hkp; exact hkp) | (rw [← eh] at hkp; exact hkp)
  rw [← eo] at hos
  have hlife : s'.heap.life = s.heap.life := (runN_life _ _ _ hrun).trans hal.2.2.2
  refine hG ⟨vs, s₁, hlaid, k, _, s', hsched, ?_, (fun _ i x hx => by rw [hgens] at hx; simp at hx), hkp, by rw [hlife], Shared.rest_eq hos⟩
  clear hG
  refine Classical.byContradiction fun hG => ?_
  rcases hcase with ⟨v, hr, d1, d2, d3, d4, d5⟩ | ⟨e, ob, cls, hr, d1, d2, d3, d4, d5⟩
  · exact hG (.inl ⟨v, congrArg outcomeOf hr, d1, d2, d3, fun b o y _ => d4 b o y, d5⟩)
  · exact hG (.inr ⟨e, ob, cls, congrArg outcomeOf hr, d1, d2, d3, d4, fun b o y _ => d5 b o y⟩)

theorem open_anyF {r : RowW} {run : Value → List Value → Sem Value} {tree : List Value → Sem Fin} {q : Program} {loose defs kps : List Str} {writes : Bool} {Xt : Shared → Bool} {XP : (Str → Option Value) → Heap → Prop} {α : Type} {Yf : Shared → α} {Ya : World → α} {YP : World → Heap → Prop} {N : Nat}
    (left : LeftO r.prog q loose Xt Yf Ya N) (hY : ∀ w s, Yf s = Ya w → YP w s.heap) (hYk : ∀ w h h', YP w h → (∀ b o, h.get? b = some o → h'.get? b = some o) → YP w h') (hX : ∀ s, Xt s = true → XP (s.heap.nsMap mainGlobals) s.heap) (hXk : ∀ mg h h', XP mg h → (∀ b o, h.get? b = some o → h'.get? b = some o) → XP mg h')
    (hRf : ∀ s, Xt s = true → RecFacts r.records s.heap) (hwr : (!writes || r.records.isEmpty) = true) (ok : (chainsOk q && opensWell r.prog && (frees r && r.within.isEmpty)) = true) (hb : r.prog.bare) (hw : r.promised)
    (ht : ∀ vs (w : World) (s : Shared) mg f (Q : Fin → Shared → Prop) (E : Value → Shared → Prop), s.heap.Ns mainGlobals mg → mg r.name = some f → wpG (model r.prog w) callerA (run f vs) (fun v s' => Q (.done (.ret v)) s') E s → wpG (model r.prog w) callerA (tree vs) Q E s)
    (pin : ∀ w s, s.heap.isNs mainGlobals = true → Ground q loose [] XP w s (s.heap.nsMap mainGlobals) (s.heap.nsMap builtinsNs) s.heap → ∀ n ∈ defs, isTheDefsW r.prog s.heap n)
    (call : ∀ (w : World) (s₀ s₁ : Shared) (mg mb : Str → Option Value), Ground q loose r.records XP w s₀ mg mb s₁.heap → YP w s₁.heap → ∀ (args : List WData) (vs : List Value) (as : List Addr),
      r.claim.pre args = true → WData.layableAll args = true → Laid r.records w s₀ s₁ args vs as → sysModules < s₀.heap.objs.size → ∃ f, mg r.name = some f ∧
        wpG (model r.prog w) callerA (run f vs) (fun v s' => GoodWG r.claim (classAt s₀.heap) (ExcName.means s₀.heap) args s₁ (.ok (.ret v)) s')
          (fun e s' => GoodWG r.claim (classAt s₀.heap) (ExcName.means s₀.heap) args s₁ (.error e) s') s₁) : r.claim.HoldsOpenBy (fun vs => ⟨tree vs, .builtin "claim.caller" {}, default, []⟩) defs kps writes := by
  obtain ⟨ok, k5⟩ := Bool.and_eq_true_iff.mp ok
  obtain ⟨hch, o1⟩ := Bool.and_eq_true_iff.mp ok
  obtain ⟨k5, k6⟩ := Bool.and_eq_true_iff.mp k5
  obtain ⟨hsame, hu, ha, hap, hm⟩ := frees_parts k5
  refine ⟨⟨hb, o1, by show r.makers.map _ = []; rw [hm]; rfl⟩, hw.witness, fun w => ⟨(left.behind hX hch w).1, fun s' hs' => ?_⟩⟩
  refine Classical.byContradiction fun hG => ?_
  obtain ⟨s₀, hf, hg0, s, hT, hz, hgens, hg, G00, y⟩ := (left.behind (XP := fun mg h => XP mg h ∧ RecFacts r.records h) (fun s hs => ⟨hX s hs, hRf s hs⟩) hch w).2 s' hs'
  have G0 : Ground q loose [] XP w s (s.heap.nsMap mainGlobals) (s.heap.nsMap builtinsNs) s.heap := ⟨G00.T, G00.B, G00.D, G00.TE, G00.TD, G00.W, G00.X.1, G00.cls, G00.has, G00.apart, G00.once, G00.K⟩
  have RF := G00.X.2
  have hT' := hT
  refine hG ⟨s₀, hf, hg0, s, hT, pin w s hg G0, RF.1, RF.2.1, ?_⟩
  clear hG
  have hgens : s.gens = #[] := Array.eq_empty_of_size_eq_zero (beq_iff_eq.mp hgens)
  have G : Ground q loose r.records XP w s _ _ s.heap := RF.ground G0
  refine callFromF (c := r.claim) hz hgens fun args hpre hlay ord hord => ?_
  refine Classical.byContradiction fun hG => ?_
  obtain ⟨⟨vs, s₁⟩, hlaid⟩ := Option.isSome_iff_exists.mp (layAllW_isSome (P := w.params) (ord := ord) G.has args r.args s (pre_splitW hpre).1)
  have keeps := layAllW_keeps _ _ _ hlaid
  have hal := layAllW_rest _ _ _ hlaid
  obtain ⟨as, hrd, hin, hold⟩ := reads_layAllW hord _ _ _ hlaid hlay s₁.heap (fun _ _ e => e)
  have L : Laid r.records w s s₁ args vs as := ⟨⟨ord, hord, hlaid⟩, hrd, hin, hold, keeps, hal.1.trans hgens, hal.2.2.1⟩
  have G₁ := G.keeps hXk keeps
  obtain ⟨f, hf, h⟩ := call w s s₁ _ _ G₁ (hYk _ _ _ (hY w s y) keeps) args vs as hpre hlay L G.low
  have hi := ident_freeW hu ha hap
  have hwi : r.claim.within = [] := List.isEmpty_iff.mp k6
  exact hG ⟨vs, s₁, hlaid, ht vs w s₁ _ f _ _ G₁.T.g hf (wpG_mono h (fun v s' g => ⟨_, rfl, have z := g.laid (c := r.claim) hsame hwi hi L; ⟨z.1, z.2.1, z.2.2, fun q => ⟨namesKept_of hT' hg kps keeps g.2.1.old, noTable hwr q⟩⟩⟩) fun e s' g => have z := g.laid (c := r.claim) hsame hwi hi L; ⟨z.1, z.2.1, z.2.2, fun q => ⟨namesKept_of hT' hg kps keeps g.2.1.old, noTable hwr q⟩⟩)⟩

abbrev WalkF (q : Program) (loose : List Str) (XP : (Str → Option Value) → Heap → Prop) (YP : World → Heap → Prop) (r : RowW) (d : DefRec) (kwd : List (Str × Expr)) (run : Value → List Value → Sem Value) : Prop :=
  ∀ (w : World) (s₀ s₁ : Shared) (mg mb : Str → Option Value), Ground q loose r.records XP w s₀ mg mb s₁.heap → YP w s₁.heap → ∀ (a : Addr) (o : Obj) (pm cd doc dV kV : Value), s₁.heap.get? a = some o →
    o.data = .func { docDef d.name d.params d.body d.scope pm cd doc with defaults := dV, kwdefaults := kV } → s₁.heap.CodeRec cd d.name → Dflts mg s₁.heap d.params kwd dV kV → mg d.name = some (.ref a) → s₁.gens = #[] →
    ∀ (args : List WData) (vals : List Value) (as : List Addr), r.claim.pre args = true → WData.layableAll args = true → ReadsAllW r.records (classAt s₀.heap) s₁.heap vals args as → WellAll w.params s₁.heap vals args → (∀ a ∈ as, (a == sysModules) = false) →
      wpG (model r.prog w) callerA (run (.ref a) vals) (fun v s' => GoodWG r.claim (classAt s₀.heap) (ExcName.means s₀.heap) args s₁ (.ok (.ret v)) s')
        (fun e s' => GoodWG r.claim (classAt s₀.heap) (ExcName.means s₀.heap) args s₁ (.error e) s') s₁

theorem holds_openF {r : OpenRow} {q : Program} {loose : List Str} {Xt : Shared → Bool} {XP : (Str → Option Value) → Heap → Prop} {α : Type} {Yf : Shared → α} {Ya : World → α} {YP : World → Heap → Prop} {d : DefRec} {kwd : List (Str × Expr)} {N : Nat}
    (left : LeftO r.prog q loose Xt Yf Ya N) (hY : ∀ w s, Yf s = Ya w → YP w s.heap) (hYk : ∀ w h h', YP w h → (∀ b o, h.get? b = some o → h'.get? b = some o) → YP w h')
    (hX : ∀ s, Xt s = true → XP (s.heap.nsMap mainGlobals) s.heap) (hXk : ∀ mg h h', XP mg h → (∀ b o, h.get? b = some o → h'.get? b = some o) → XP mg h')
    (hdef : defOf q r.name = some (d, kwd)) (hp : r.prog.theDef r.name = some (d.params, d.body, d.scope)) (hk : kwWritten? d.params.kwonlyargs d.params.kw_defaults = some kwd) (hRf : ∀ s, Xt s = true → RecFacts r.records s.heap) (hwr : (!r.writes || r.records.isEmpty) = true)
    (k1 : r.wellSaid = true) (ok : (chainsOk q && opensWell r.prog && (frees r.toRowW && r.within.isEmpty)) = true) (hb : r.prog.bare) (hw : r.toRowW.promised)
    (call : WalkF q loose XP YP r.toRowW d kwd fun f vs => PySem.call f vs) : r.Holds := by
  refine ⟨k1, hw, open_anyF (r := r.toRowW) (run := fun f vs => PySem.call f vs) (tree := fun vs => do match ← nsGet mainNs r.name with
      | some f => do ret (← PySem.call f vs)
      | none => unsupported "claim.caller:no-such-global") left hY hYk hX hXk hRf hwr ok hb hw
    (fun vs w s mg f Q E hg hf h => wpG_bindA (wpAny_nsGet hg (by rw [hf]; exact wpG_bind (wpG_mono h (fun _ _ x => wpG_pure x) fun _ _ x => x))))
    (fun w s hg G n hn => ?_) fun w s₀ s₁ mg mb G Y args vs as hpre hlay L low => ?_⟩
  · obtain rfl : n = r.name := by split at hn <;> simp_all
    exact pinned_of_view hg G hdef hp hk
  · obtain ⟨a, o, pm, cd, doc, dV, kV, h1, h2, h3, h4, h5⟩ := G.fn hdef
    exact ⟨.ref a, h1, call w s₀ s₁ mg mb G Y a o pm cd doc dV kV h2 h3 h4 h5 (defOf_name hdef ▸ h1) L.gens args vs as hpre hlay L.reads L.well (L.low low)⟩


theorem hdF (walk : WalkF qv loose (XL qv []) (kHook K Kas Kok).says PySem.Challenge.rw_on0348_01.row.toRowW dkP.1.1 dkP.1.2 fun f vs => PySem.call f vs) : PySem.Challenge.rw_on0348_01.Holds :=
  holds_law said fun said' =>
  holds_openF (q := qv) (loose := loose) (Xt := Xt0) (XP := XL qv []) (Yf := (kHook K Kas Kok).obs) (Ya := (kHook K Kas Kok).val) (YP := (kHook K Kas Kok).says) (N := 10000) left (kHook K Kas Kok).of (kHook K Kas Kok).keeps (fun s e => xl_of s (Bool.and_eq_true_iff.mp e).1) XL.keeps dkP.2 theLaw rfl (fun s e => recFacts_of (Bool.and_eq_true_iff.mp e).2) rfl said' ok3 bare0 prom walk
end Mine
end PartBg
section PartBh
open PySem PySem.W PySem.Calls PyProof.Rows
open Sem (wp)
set_option Elab.async false
set_option maxRecDepth 100000
set_option maxHeartbeats 400000
namespace Mine
section
variable {M : Model} {A : Around} {s : Shared}
theorem codeG_loop {c : Code} {R : Result → Shared → Prop} (hc : Mine.holds c = false) (hq : c.quiet = true) (I : Nat → Shared → Prop)
    (turn : ∀ n s, I n s → wpG M (A.under c) (M.den c)
      (fun fin s' => match fin with
        | .done f => R (.ok f) s'
        | .again c' => (c' = c ∧ ∃ m, m < n ∧ I m s') ∨ (c'.quiet = true ∧ codeG M A c' R s')) (fun e s' => R (.error e) s') s)
    (n : Nat) (h : I n s) : codeG M A c R s := by
  induction n using Nat.strongRecOn generalizing s with
  | ind n ih =>
    refine codeG_of_tree hc (wpG_mono (turn n s h) (fun fin s' hf => ?_) fun _ _ h' => h')
    cases fin with
    | done f => exact hf
    | again c' =>
      rcases hf with ⟨rfl, m, hm, hI⟩ | hf
      · exact ⟨hq, ih m hm hI⟩
      · exact hf
theorem wpG_noted {α : Type} {env : Env} {m : Sem α} {Q : α → Shared → Prop} {E : Value → Shared → Prop} (h : wpG M A m Q (fun _ _ => False) s) : wpG M A (m.onRaise fun x => do noteFrame x env; theTreesLotGoes x) Q E s :=
  wpG_onRaise (wpG_mono h (fun _ _ q => q) fun _ _ hx => hx.elim)
end
section
variable {prog : Program} {w : World} {A : Around} {E : Value → Shared → Prop} {s : Shared}
theorem codeG_block {stmts : List Stmt} {env : Env} {R : Result → Shared → Prop} (h : wpG (model prog w) A (execs stmts env) (fun f s' => R (.ok f) s') (fun _ _ => False) s) : codeG (model prog w) A (.block stmts env) R s := by
  refine codeG_of_tree rfl ?_
  show wpG _ _ (do return Fin.done (← (execs stmts env).onRaise (fun x => do noteFrame x env; theTreesLotGoes x))) _ _ s
  exact wpG_bind (wpG_noted (wpG_mono h (fun f s' h' => wpG_pure h') fun _ _ h' => h'))
theorem codeG_forLoop {R : Result → Shared → Prop} {target it body env} (I : Nat → Shared → Prop)
    (turn : ∀ n s, I n s → wpAny (model prog w) A (pyNext it) (fun r s₁ => match r with
      | none => R (.ok .next) s₁
      | some v => wpAny (model prog w) A (assign target env v) (fun _ s₂ => wpG (model prog w) A (execs body env) (fun f s₃ => match f with
          | .next | .cont => ∃ m, m < n ∧ I m s₃
          | .brk => R (.ok .next) s₃
          | .ret v => R (.ok (.ret v)) s₃) (fun _ _ => False) s₂) (fun _ _ => False) s₁) (fun _ _ => False) s)
    (n : Nat) (h : I n s) (ht : ∀ v, letOwnedTupleGo target it v = pure () := by intro _; rfl) : codeG (model prog w) A (.forLoop target it body [] env) R s := by
  refine codeG_loop rfl rfl I (fun n s hI => ?_) n h
  show wpG _ _ ((forTurn target it body [] env).onRaise (fun x => do noteFrame x env; theTreesLotGoes x)) _ _ s
  refine wpG_noted ?_
  simp only [forTurn]
  refine wpG_bindA (wpAny_standAt ?_)
  refine wpG_bindA (wpAny_onRaise (wpAny_mono (turn n s hI) (fun r s₁ h₁ => ?_) fun _ _ h' => h'.elim))
  cases r with
  | none => exact wpG_pure (.inr ⟨rfl, codeG_block (wpG_execs_nil h₁)⟩)
  | some v =>
    refine wpG_bindA (wpAny_of_eq (ht v) ?_)
    refine wpG_bindA (wpAny_mono h₁ (fun _ s₂ h₂ => wpG_bind (wpG_mono h₂ (fun f s₃ h₃ => ?_) fun _ _ h' => h')) fun _ _ h' => h')
    cases f with
    | next => exact wpG_pure (.inl ⟨rfl, h₃⟩)
    | cont => exact wpG_pure (.inl ⟨rfl, h₃⟩)
    | brk => exact wpG_pure h₃
    | ret v => exact wpG_pure h₃
theorem wpG_For {target iter body pos} {env : Env} {Q : Flow → Shared → Prop}
    (h : wpAny (model prog w) A (eval iter env) (fun x s₁ => wpAny (model prog w) A (pyIter x) (fun it s₂ =>
      codeG (model prog w) A (.forLoop target it body [] env) (fun r s' => match r with | .ok f => Q f s' | .error e => False) s₂) E s₁) E s)
    (hs : ∀ x, foldedSetIterable iter env x = pure x := by intro _; rfl) :
    wpG (model prog w) A (exec (.For target iter body [] pos) env) Q E s := by
  rw [exec_For]
  refine wpG_bindA (wpAny_standAt (wpG_bindA (wpAny_mono h (fun x s₁ h₁ => wpG_bindA (wpAny_of_eq (hs x) (wpG_bindA (wpAny_standAt (wpG_bindA (wpAny_holding
    (wpAny_mono h₁ (fun it s₂ h₂ => ?_) fun _ _ h' => h'))))))) fun _ _ h' => h')))
  unfold runOwn
  refine wpG_onRaise (E := E) (fun Γ p i f d => ?_)
  rw [Sem.wp_run]
  exact wpCode_mono (fun r s' z => by cases r with | ok f => exact z | error e => exact z.elim) (h₂ _ p rfl (i.enter _ none p (by intro x; cases x)) (f.enter d _ none p))
/-- a loop over range(n): the ledger's invariant J -/
theorem wpG_ForRange {name : PySem.Str} {scope : Scope} {L a : Addr} {cd : Value} {h₀ : Heap} {m : PySem.Str → Option Value} {news : List (Addr × Obj)} {x : PySem.Str} {px : Pos} {iter : PySem.Expr} {body : List Stmt} {pos : Pos} {Q : Flow → Shared → Prop}
    (J : (PySem.Str → Option Value) → List (Addr × Obj) → Prop)
    (h : wpAny (model prog w) A (eval iter (envOf name scope L a cd)) (fun v s₁ => ∃ r n t u z k h₁ m₁ news₁, v = .ref r ∧ s₁ = { s with heap := h₁, toks := k } ∧ IsRange h₁ r 0 n 1 t u z ∧ 0 ≤ n ∧ n ≤ 100 ∧ Fr h₀ L h₁ m₁ ∧ News h₀ L h₁ news₁ ∧ (news₁.map (·.1)).Nodup ∧ J m₁ news₁) E s)
    (hh : A.handled = none)
    (step : ∀ m₁ news₁ h₁ tk I o v t, J m₁ news₁ → Fr h₀ L h₁ (fun y => if y = x then some (.int v t) else m₁ y) → News h₀ L h₁ ((I, o) :: news₁) → (((I, o) :: news₁).map (·.1)).Nodup →
      wpG (model prog w) A (execs body (envOf name scope L a cd)) (fun f s₂ => f = .next ∧ ∃ m₂ news₂ h' tk', J m₂ news₂ ∧ s₂ = { s with heap := h', toks := tk' } ∧ Fr h₀ L h' m₂ ∧ News h₀ L h' ((I, o) :: news₂) ∧ (((I, o) :: news₂).map (·.1)).Nodup) (fun _ _ => False) { s with heap := h₁, toks := tk })
    (hR : ∀ m' news' h' tk', J m' news' → Fr h₀ L h' m' → News h₀ L h' news' → (news'.map (·.1)).Nodup → Q .next { s with heap := h', toks := tk' })
    (hk : scope.kind = .function := by rfl) (hl : (envOf name scope L a cd).kindOf x = some .local := by rfl)
    (hs : ∀ v, foldedSetIterable iter (envOf name scope L a cd) v = pure v := by intro _; rfl) :
    wpG (model prog w) A (exec (.For (.Name x px) iter body [] pos) (envOf name scope L a cd)) Q E s := by
  refine wpG_For (wpAny_mono h (fun v s₁ hv => Classical.byContradiction fun hG => ?_) fun _ _ e => e) hs
  obtain ⟨r, n, t, u, z, k, h₁, m₁, news₁, e1, e2, hr, hn0, hn1, F, N, ND, hJ⟩ := hv
  subst e1
  subst e2
  refine hG ?_
  clear hG
  obtain ⟨n, rfl⟩ : ∃ i : Nat, n = i := ⟨n.toNat, by omega⟩
  have hn : Builtin.Range.rangeSize 0 (n : Int) 1 = n := by unfold Builtin.Range.rangeSize; split <;> (try split) <;> omega
  have hsm : Builtin.Range.small 0 (n : Int) 1 = true := (by decide +kernel : ∀ i : Fin 101, Builtin.Range.small 0 (i.val : Int) 1 = true) ⟨n, by omega⟩
  refine wpAny_pyIter_range hr hsm ?_
  rw [hn]
  have N' := N.push F { cls := .type "range_iterator", data := .fields #[rawInt 0, rawInt n, rawInt 1] }
  have F' := F.push { cls := .type "range_iterator", data := .fields #[rawInt 0, rawInt n, rawInt 1] }
  have ND' : ((((h₁.objs.size, ({ cls := .type "range_iterator", data := .fields #[rawInt 0, rawInt n, rawInt 1] } : Obj)) :: news₁).map (·.1))).Nodup := by
    rw [List.map_cons, List.nodup_cons]
    refine ⟨fun hm => ?_, ND⟩
    obtain ⟨p, hp, e⟩ := List.mem_map.mp hm
    exact Nat.lt_irrefl _ (e ▸ Heap.lt_size (N p hp).1)
  refine codeG_forLoop (I := fun i s' => ∃ h' tk m' news' y, s' = { s with heap := h', toks := tk } ∧ Fr h₀ L h' m' ∧ News h₀ L h' ((h₁.objs.size, { cls := .type "range_iterator", data := .fields #[rawInt y, rawInt (i : Nat), rawInt 1] }) :: news') ∧
    (((h₁.objs.size, ({ cls := .type "range_iterator", data := .fields #[rawInt y, rawInt (i : Nat), rawInt 1] } : Obj)) :: news').map (·.1)).Nodup ∧ J m' news') ?_ n ⟨_, _, m₁, news₁, 0, rfl, F', N', ND', hJ⟩
  intro i s' hI
  refine Classical.byContradiction fun hG => ?_
  obtain ⟨h', tk, m', news', y, e1, F₁, N₁, ND₁, hJ₁⟩ := hI
  subst e1
  refine hG ?_
  clear hG
  have hit : IsRangeIter h' h₁.objs.size y i 1 := (N₁ _ (.head _)).1
  have hIL : h₁.objs.size ≠ L := (N₁ _ (.head _)).2.1
  have hI0 : h₀.get? h₁.objs.size = none := (N₁ _ (.head _)).2.2
  have nI : ∀ p ∈ news', p.1 ≠ h₁.objs.size := fun p hp e => by
    rw [List.map_cons, List.nodup_cons] at ND₁
    exact ND₁.1 (List.mem_map.mpr ⟨p, hp, e⟩)
  by_cases hi : i = 0
  · subst hi
    refine wpAny_pyNext_range_end hh hit (Int.le_refl _) fun h₂ he => ?_
    refine hR m' news' h₂ tk hJ₁ ?_ (fun p hp => ⟨he _ _ (nI p hp) (N₁ p (.tail _ hp)).1, (N₁ p (.tail _ hp)).2⟩) (List.nodup_cons.mp ND₁).2
    obtain ⟨oL, es, ep, hL, q⟩ := F₁.ns
    exact ⟨⟨oL, es, ep, he _ _ (Ne.symm hIL) hL, q⟩, fun b o e => he b o (fun z => by rw [z, hI0] at e; cases e) (F₁.keep b o e), F₁.above⟩
  · refine wpAny_pyNext_range_item hit (by omega) fun h₂ hit₂ hs₂ => ?_
    have F₂ : Fr h₀ L h₂ m' := F₁.change hs₂ hIL hI0
    have N₂ : News h₀ L h₂ ((h₁.objs.size, { cls := .type "range_iterator", data := .fields #[rawInt (y + 1), rawInt ((i - 1 : Nat) : Int), rawInt 1] }) :: news') := fun p hp => by
      rcases List.mem_cons.mp hp with rfl | hp
      · refine ⟨?_, hIL, hI0⟩
        have e : ((i - 1 : Nat) : Int) = (i : Int) - 1 := by omega
        rw [e]; exact hit₂
      · exact ⟨(hs₂.2 _ (nI p hp)).trans (N₁ p (.tail _ hp)).1, (N₁ p (.tail _ hp)).2⟩
    refine wpAny_assign_Name (wpAny_storeName_local hl F₂.ns (fun h₃ hn₃ hs₃ => ?_) (by show (scope.kind == .class || (scope.kind == .module && L != mainGlobals)) = false; rw [hk]; rfl))
    have F₃ := F₂.set hn₃ hs₃
    have N₃ : News h₀ L h₃ ((h₁.objs.size, { cls := .type "range_iterator", data := .fields #[rawInt (y + 1), rawInt ((i - 1 : Nat) : Int), rawInt 1] }) :: news') := fun p hp => ⟨(hs₃.2 _ (N₂ p hp).2.1).trans (N₂ p hp).1, (N₂ p hp).2⟩
    refine wpG_mono (step m' news' h₃ _ _ _ _ _ hJ₁ F₃ N₃ ND₁) (fun f s₂ hf => ?_) fun _ _ e => e
    obtain ⟨rfl, m₂, news₂, h₄, tk₄, hJ₂, rfl, F₄, N₄, ND₄⟩ := hf
    exact ⟨i - 1, by omega, h₄, tk₄, m₂, news₂, y + 1, rfl, F₄, N₄, ND₄, hJ₂⟩
end
end Mine
end PartBh
section PartBi
open PySem PySem.W PySem.Calls PyProof.Rows
set_option Elab.async false
set_option maxRecDepth 100000
set_option maxHeartbeats 400000
namespace Mine
/-- a class call by the contract of its __init__ -/
theorem Sp.cls {w : World} {dp un dp' un' : Nat} {C fI : Addr} {vs : List Value} {pre : List (Addr × Obj)} {post : Value → List (Addr × Obj) → Prop}
    (hm : makesIn (K w.params) C = true) (hi : findIn (K w.params) (.ref C) "__init__" = some (some (.ref fI))) (hf : typeIn (K w.params) (.ref fI) = some (.type "function")) (hd : dp + 1 ≤ dp') (hu : un + 4 ≤ un')
    (I : ∀ x dx, (∀ p ∈ pre, p.1 < dx) → dx < x → Sp w dp' un' fI (.ref x :: vs) ((x, instObj C dx) :: (dx, emptyDict) :: pre) (fun v nl => v = .none ∧ post (.ref x) nl)) : Sp w dp un C vs pre post := by
  intro env outer base g mean mg mb s R B X T keep size hpre nd ret
  have X' : (K w.params).In s.heap := X.keeps keep
  obtain ⟨h, gs, d, t, os⟩ := s
  have lt : ∀ p ∈ pre, p.1 < h.objs.size := fun p hp => Heap.lt_size (hpre p hp).1
  have gn : ∀ n, h.objs.size ≤ n → g.get? n = none := fun n hn => by
    cases q : g.get? n with
    | none => rfl
    | some o => exact absurd (Heap.lt_size (keep _ _ q)) (Nat.not_lt.mpr hn)
  refine make_core (makes_of X' hm) (looks_findIn X' hi) (fun self => bind_fn X' self hf) (.inl rfl) ?_
  have k2 : ∀ b o, h.get? b = some o → ((h.push emptyDict).push (instObj C h.objs.size)).get? b = some o := fun b o e => Heap.get?_push_of_some _ (Heap.get?_push_of_some _ e)
  have hx : ((h.push emptyDict).push (instObj C h.objs.size)).get? (h.objs.size + 1) = some (instObj C h.objs.size) := by heap_get
  have hdx : ((h.push emptyDict).push (instObj C h.objs.size)).get? h.objs.size = some emptyDict := Heap.get?_push_of_some _ (Heap.get?_push_size _ rfl)
  refine codeAny_weaken (A' := AA dp' un' env outer) rfl ?_ (fun l e => ?_) (fun l e => nomatch e) ?_ ?_
  · show dp + _ ≤ dp'; exact Nat.le_trans (Nat.add_le_add_left (by show (Code.builtin "type.__call__" ⟨.ref C :: vs, []⟩).weight ≤ 1; exact Nat.le_refl _) _) hd
  · exact e
  · show un + _ ≤ un'; exact Nat.le_trans (Nat.add_le_add_left (by show (Code.builtin "type.__call__" ⟨.ref C :: vs, []⟩).cUnits ≤ 4; exact Nat.le_of_ble_eq_true rfl) _) hu
  refine I (h.objs.size + 1) h.objs.size lt (Nat.lt_succ_self _) env outer base g mean mg mb _ _ ⟨rfl, B.stays, B.frames⟩ X T (fun b o e => k2 b o (keep b o e)) (Nat.le_trans size (show h.objs.size ≤ _ from by rw [Heap.size_push, Heap.size_push]; exact Nat.le_trans (Nat.le_succ _) (Nat.le_succ _))) (fun p hp => ?_) ?_ fun v news' h' tk' hpost hk hn hnd => ?_
  · rcases List.mem_cons.mp hp with rfl | hp
    · exact ⟨hx, gn _ (Nat.le_succ _)⟩
    · rcases List.mem_cons.mp hp with rfl | hp
      · exact ⟨hdx, gn _ (Nat.le_refl _)⟩
      · exact ⟨k2 _ _ (hpre p hp).1, (hpre p hp).2⟩
  · rw [List.map_cons, List.map_cons, List.nodup_cons, List.nodup_cons]
    refine ⟨fun q => ?_, fun q => ?_, nd⟩
    · rcases List.mem_cons.mp q with q | q
      · exact absurd q (Nat.succ_ne_self _)
      · obtain ⟨p, hp, e⟩ := List.mem_map.mp q
        have e : p.1 = h.objs.size + 1 := e
        exact absurd (e ▸ lt p hp : h.objs.size + 1 < h.objs.size) (by omega)
    · obtain ⟨p, hp, e⟩ := List.mem_map.mp q
      have e : p.1 = h.objs.size := e
      exact absurd (e ▸ lt p hp : h.objs.size < h.objs.size) (Nat.lt_irrefl _)
  · obtain ⟨rfl, hpost⟩ := hpost
    exact ⟨rfl, ret _ news' h' tk' hpost hk hn hnd⟩
end Mine
end PartBi
section PartJn
open PySem PySem.W PySem.Calls PyProof.Rows PyProof.V PySem.Spec
set_option Elab.async false
set_option maxRecDepth 100000
set_option maxHeartbeats 400000
namespace Mine
section
variable {M : Model} {A : Around} {E : Value → Shared → Prop} {s : Shared} {h₀ : Heap} {L : Addr} {m : PySem.Str → Option Value} {news : List (Addr × Obj)}
/-- two ways that meet in an int of which P holds -/
inductive JInt (P : Int → Prop) (s : Shared) (v : Value) (s' : Shared) : Prop where
  | mk (x : _) (t : _) (tk : _) (hh1 : v = .int x t) (hh2 : P x) (hh3 : s' = { s with toks := tk }) : JInt P s v s'
theorem JInt.intro {P : Int → Prop} {x : Int} {t : Tok} {tk : Nat} (h : P x) : JInt P s (.int x t) { s with toks := tk } := ⟨x, t, tk, rfl, h, rfl⟩
theorem join_int {P : Int → Prop} {T : Sem Value} {Q : Value → Shared → Prop} (h : wpAny M A T (JInt P s) E s) (k : ∀ x t tk, P x → Q (.int x t) { s with toks := tk }) : wpAny M A T Q E s :=
  wpAny_mono h (fun v s' ⟨x, t, tk, e, hp, e'⟩ => by subst e; subst e'; exact k x t tk hp) fun _ _ e => e
theorem join_fl {fl : Int} (_ : fl < 256) {T : Sem Value} {Q : Value → Shared → Prop} (h : wpAny M A T (JInt (fun x => Builtin.bitOr fl 16 = fl + x) s) E s) (k : ∀ x t tk, Builtin.bitOr fl 16 = fl + x → Q (.int x t) { s with toks := tk }) : wpAny M A T Q E s :=
  join_int h k
/-- two ways that meet in the bytes c -/
inductive JBytes (c : Array UInt8) (h₀ : Heap) (L : Addr) (s : Shared) (m : PySem.Str → Option Value) (news : List (Addr × Obj)) (v : Value) (s' : Shared) : Prop where
  | mk (t : _) (h' : _) (tk : _) (hh1 : v = .bytes c t) (hh2 : s' = { s with heap := h', toks := tk }) (hh3 : Fr h₀ L h' m) (hh4 : News h₀ L h' news) : JBytes c h₀ L s m news v s'
theorem JBytes.intro {c c' : Array UInt8} {all rest : List (Addr × Obj)} {t : Tok} {h' : Heap} {tk : Nat} (F : Fr h₀ L h' m) (N : News h₀ L h' all) (P : Pick news all rest) (e : c' = c) : JBytes c h₀ L s m news (.bytes c' t) { s with heap := h', toks := tk } :=
  ⟨t, h', tk, e ▸ rfl, rfl, F, fun p hp => N p (P.perm.mem_iff.mp (List.mem_append_left _ hp))⟩
theorem join_bytes {T : Sem Value} {Q : Value → Shared → Prop} (c : Array UInt8) (F : Fr h₀ L s.heap m) (N : News h₀ L s.heap news) (h : wpAny M A T (JBytes c h₀ L s m news) E s)
    (k : ∀ t h' tk, Fr h₀ L h' m → News h₀ L h' news → Q (.bytes c t) { s with heap := h', toks := tk }) : wpAny M A T Q E s :=
  wpAny_mono h (fun v s' ⟨t, h', tk, e, e', F', N'⟩ => by subst e; subst e'; exact k t h' tk F' N') fun _ _ e => e
end
section
variable {prog : Program} {w : World} {K : Type} [DecidableEq K] {knd : KeyKind prog w K} {A : Around} {E : Value → Shared → Prop} {s : Shared} {h₀ : Heap} {L d : Addr} {m : PySem.Str → Option Value} {news : List (Addr × Obj)} {o : Obj} {kvs : List (K × Value)} {k : K} {key v : Value}
/-- a dict's item is set; of the ledger only what nd tells of is kept -/
theorem kda_setN {all r rest : List (Addr × Obj)} {Q : Unit → Shared → Prop} (nd : (all.map (·.1)).Nodup) (F : Fr h₀ L s.heap m) (N : News h₀ L s.heap news) (P : Pick all news r) (T : Pick [(d, o)] all rest) (hd : o.IsDictOf knd kvs) (hkey : knd.is k key = true) (hsz : kvs.length ≤ sizeLine)
    (h : ∀ h' o', Fr h₀ L h' m → News h₀ L h' ((d, o') :: rest) → o'.IsDictOf knd (stored kvs k v) → Q () { s with heap := h', toks := s.toks + 1 }) : wpAny (model prog w) A (setItem (.ref d) key v) Q E s := by
  have T := T.take
  have Na : News h₀ L s.heap all := fun p hp => N p (P.perm.mem_iff.mp (List.mem_append_left _ hp))
  have nd' := (T.map (·.1)).nodup_iff.mpr nd
  rw [List.map_cons, List.nodup_cons] at nd'
  have hm := Na (d, o) (T.mem_iff.mp (.head _))
  refine wpAny_setItem_pairs (hsz := hsz) hkey (Heap.dictOf_iff.mpr ⟨o, hm.1, hd⟩) fun h' hmm hs => ?_
  obtain ⟨o', ho', hd'⟩ := Heap.dictOf_iff.mp hmm
  refine h h' o' (F.change hs hm.2.1 hm.2.2) (fun p hp => ?_) hd'
  rcases List.mem_cons.mp hp with rfl | hp
  · exact ⟨ho', hm.2⟩
  · have z := Na p (T.mem_iff.mp (.tail _ hp))
    exact ⟨hs.extBut _ _ (fun q => nd'.1 (List.mem_map.mpr ⟨p, hp, q⟩)) z.1, z.2⟩
end
theorem mx_ite {a b : Int} [Decidable (b > a)] : (if b > a then b else a) = max a b := by split <;> omega
theorem mn_ite {a b : Int} [Decidable (b < a)] : (if b < a then b else a) = min a b := by split <;> omega
theorem edge_yes {p room bs e e9 mss R : Int} (p93 : max 1 (min mss R) ≤ p + (room - bs) - e → e9 = p + (room - bs)) (h : (if (if R < mss then R else mss) > 1 then if R < mss then R else mss else 1) ≤ p + room - bs - e) : e9 = p + room - bs := by
  rw [mn_ite, mx_ite, Int.add_sub_assoc] at h
  rw [Int.add_sub_assoc]
  exact p93 h
theorem edge_no {p room bs e e9 mss R : Int} (p94 : p + (room - bs) - e < max 1 (min mss R) → e9 = e) (h : ¬(if (if R < mss then R else mss) > 1 then if R < mss then R else mss else 1) ≤ p + room - bs - e) : e9 = e := by
  rw [mn_ite, mx_ite, Int.add_sub_assoc] at h
  exact p94 (Int.not_le.mp h)
end Mine
end PartJn
section PartBn
open PySem PySem.W PySem.Calls PyProof.Rows PyProof.V PySem.Spec
set_option Elab.async false
set_option maxRecDepth 100000
set_option maxHeartbeats 400000
namespace Mine
section
variable {prog : Program} {w : World} {A : Around} {E : Value → Shared → Prop} {s : Shared}
theorem in_bytes {n : Int} {u : Tok} : specialOf (.int n u) "__bytes__" = pure none := by show typeLookup (.type "int") _ = _; rw [typeLookup_type, builtinLookup_eq_fast]; kernel_rfl
theorem in_index {n : Int} {u : Tok} : specialOf (.int n u) "__index__" = pure (some (.builtin "int.__index__")) := by show typeLookup (.type "int") _ = _; rw [typeLookup_type, builtinLookup_eq_fast]; kernel_rfl
theorem new_bytes_int {n : Int} {u : Tok} {R : Result → Shared → Prop} (h0 : 0 ≤ n) (h1 : n ≤ 100) (h : ∀ t k c, R (.ok (.ret (.bytes c t))) { s with toks := k }) :
    codeAny (model prog w) A (.call (.builtin "bytes.__new__") ⟨[.type "bytes", .int n u], []⟩) R s := by
  refine codeAny_of_tree ?_
  show wpAny _ A.in1 (do checkBuiltinCall "bytes.__new__" ⟨[.type "bytes", .int n u], []⟩; again (.builtin "bytes.__new__" ⟨[.type "bytes", .int n u], []⟩)) _ _ s
  refine wpAny_bind (wpAny_of_eq (F.bm_newCall _) (wpAny_pure ⟨plainId_quiet F.bm_plain _, codeAny_builtin F.bm_entry ?_⟩))
  rw [Around.under_plainId F.bm_plain _]
  unfold Builtin.«bytes.__new__»
  refine wpAny_bind (wpAny_of_eq (a := true) rfl ?_)
  refine bm_if_false rfl ?_
  refine wpAny_bind (wpAny_of_eq F.bm_sub ?_)
  refine bm_if_false rfl ?_
  refine wpAny_bind (wpAny_of_eq (F.bm_bind _) ?_)
  refine wpAny_bind (wpAny_of_eq (a := ()) rfl ?_)
  refine wpAny_bind (wpAny_of_eq (a := ()) rfl ?_)
  refine bm_if_false rfl ?_
  refine wpAny_bind (wpAny_of_eq in_bytes ?_)
  refine wpAny_bind (wpAny_of_eq (a := false) rfl ?_)
  refine bm_if_false rfl ?_
  refine wpAny_bind (wpAny_of_eq in_index ?_)
  refine bm_if_false rfl ?_
  refine wpAny_bind (wpAny_attempt (wpAny_of_eq (a := n) rfl ?_))
  dsimp only
  have hfit : Builtin.Bytes.fitsIndex n = true := by unfold Builtin.Bytes.fitsIndex; simp only [Bool.and_eq_true, decide_eq_true_eq]; omega
  refine bm_if_false (by rw [hfit]; rfl) ?_
  rw [if_neg (show ¬ n < 0 by omega), if_neg (show ¬ n > 2 ^ 63 - 34 by omega)]
  refine bm_if_false (KBy.tooLong_not (by omega)) ?_
  refine wpAny_bind (wpAny_rule ?_)
  refine wpAny_bind ?_
  unfold mkBytes
  rw [if_neg (by rw [Array.size_replicate, sizeLine_eq]; omega)]
  refine wpAny_bind (wpAny_fresh ?_)
  refine wpAny_pure ?_
  show wpAny _ _ (if (Value.type "bytes" == Value.type "bytes") = true then _ else _) _ _ _
  refine bm_if_true (by decide) ?_
  first
    | exact wpAny_pure (h _ _ _)
    | exact wpAny_bind (wpAny_pure (wpAny_pure (h _ _ _)))
theorem bytes_int {n : Int} {u : Tok} {Q : Value → Shared → Prop} (h0 : 0 ≤ n) (h1 : n ≤ 100) (h : ∀ t k c, Q (.bytes c t) { s with toks := k }) :
    wpAny (model prog w) A (call (.type "bytes") [.int n u]) Q E s := by
  refine callType_codes (Q₁ := fun obj s₁ => s₁.TypeIs obj "bytes" ∧ Q obj s₁) F.bm_called (F.bm_typeCall _) F.entry_object_init (new_bytes_int h0 h1 fun t k c => ⟨PySem.W.typeIs_bytes _ _ _, h t k c⟩) fun obj s₁ h₁ => ?_
  exact ⟨h₁.1, F.args_object_init_2 obj _, object_init_meets F.bm_called.init.lookup F.bm_called.made (by decide) prog w A.in1 _ s₁ ⟨h₁.1, rfl, h₁.2⟩⟩
end
end Mine
end PartBn
section PartCi
open PySem PySem.W PySem.Calls PyProof.Rows
set_option Elab.async false
set_option maxRecDepth 100000
set_option maxHeartbeats 400000
namespace Mine
abbrev lst0 (a : Addr) : Addr × Obj := (a, { cls := .type "list", data := .seq #[] 0 })
/-- [[] for x in ..]: every turn makes a new empty list and keeps it -/
theorem comp_empties {prog : Program} {w : World} {A : Around} {h₀ : Heap} {L : Addr} {m : PySem.Str → Option Value} {env : Env} {pos : Pos} {x : PySem.Str} {scope : Scope} {cl : List (PySem.Str × Addr)} {s : Shared} {P : Nat → Value → Prop}
    {Fin : List Value → List (Addr × Obj) → Prop} {news0 : List (Addr × Obj)} : ∀ (k i : Nat) (as : List Addr), (as ++ news0.map (·.1)).Nodup →
    (∀ as' : List Addr, as'.length = as.length + k → (as' ++ news0.map (·.1)).Nodup → Fin (as'.map Value.ref) (as'.map lst0 ++ news0)) →
    LCg.CompRest prog w A h₀ L m env (.List [] pos) x scope cl s (fun _ => True) P Fin k i (as.map Value.ref) (as.map lst0 ++ news0)
  | 0, i, as, nd, h => LCg.CompRest.zero (h as rfl nd)
  | k + 1, i, as, nd, h => by
    refine LCg.CompRest.succ ?_
    intro v I oI C oC D m₂ h₂ tk E' hP hC hx F N off ne
    refine List_ ?_
    show wpAny _ _ (pure []) _ _ _
    refine wpAny_pure (newList_N F N (fun h' F' N' => ?_))
    have lt : ∀ p ∈ (I, oI) :: (C, oC) :: (D, LCg.lst (as.map Value.ref)) :: (as.map lst0 ++ news0), p.1 < h₂.objs.size := fun p hp => Heap.lt_size (N p hp).1
    have lt' : ∀ a ∈ as ++ news0.map (·.1), a < h₂.objs.size := fun a ha => by
      rcases List.mem_append.mp ha with ha | ha
      · exact lt (lst0 a) (List.mem_cons_of_mem _ (List.mem_cons_of_mem _ (List.mem_cons_of_mem _ (List.mem_append_left _ (List.mem_map_of_mem ha)))))
      · obtain ⟨p, hp, rfl⟩ := List.mem_map.mp ha
        exact lt p (List.mem_cons_of_mem _ (List.mem_cons_of_mem _ (List.mem_cons_of_mem _ (List.mem_append_right _ hp))))
    have nd' : ((as ++ [h₂.objs.size]) ++ news0.map (·.1)).Nodup := by
      rw [List.append_assoc, List.singleton_append]
      rw [List.nodup_append] at nd ⊢
      refine ⟨nd.1, List.nodup_cons.mpr ⟨fun q => Nat.lt_irrefl _ (lt' _ (List.mem_append_right _ q)), nd.2.1⟩, fun a ha b hb => ?_⟩
      rcases List.mem_cons.mp hb with rfl | hb
      · exact Nat.ne_of_lt (lt' _ (List.mem_append_left _ ha))
      · exact nd.2.2 a ha b hb
    refine LCg.CompEnd.intro F' N' ((as ++ [h₂.objs.size]).map lst0 ++ news0) (fun p hp => ?_) (LCg.Off3.of fun p hp => ?_) trivial ?_
    · rw [List.map_append] at hp
      rcases List.mem_cons.mp hp with rfl | hp
      · exact List.mem_cons_of_mem _ List.mem_cons_self
      rcases List.mem_cons.mp hp with rfl | hp
      · exact List.mem_cons_of_mem _ (List.mem_cons_of_mem _ List.mem_cons_self)
      rcases List.mem_cons.mp hp with rfl | hp
      · exact List.mem_cons_of_mem _ (List.mem_cons_of_mem _ (List.mem_cons_of_mem _ List.mem_cons_self))
      rcases List.mem_append.mp hp with hp | hp
      · rcases List.mem_append.mp hp with hp | hp
        · exact List.mem_cons_of_mem _ (List.mem_cons_of_mem _ (List.mem_cons_of_mem _ (List.mem_cons_of_mem _ (List.mem_append_left _ hp))))
        · rw [List.map_singleton, List.mem_singleton] at hp
          subst hp
          exact List.mem_cons_self
      · exact List.mem_cons_of_mem _ (List.mem_cons_of_mem _ (List.mem_cons_of_mem _ (List.mem_cons_of_mem _ (List.mem_append_right _ hp))))
    · rw [List.map_append] at hp
      have o3 := off.mem
      rcases List.mem_append.mp hp with hp | hp
      · rcases List.mem_append.mp hp with hp | hp
        · exact o3 p (List.mem_append_left _ hp)
        · rw [List.map_singleton, List.mem_singleton] at hp
          subst hp
          exact ⟨Nat.ne_of_gt (lt (I, oI) List.mem_cons_self), Nat.ne_of_gt (lt (C, oC) (List.mem_cons_of_mem _ List.mem_cons_self)), Nat.ne_of_gt (lt (D, _) (List.mem_cons_of_mem _ (List.mem_cons_of_mem _ List.mem_cons_self)))⟩
      · exact o3 p (List.mem_append_right _ hp)
    · have ih := comp_empties (prog := prog) (w := w) (A := A) (h₀ := h₀) (L := L) (m := m) (env := env) (pos := pos) (x := x) (scope := scope) (cl := cl) (s := s) (P := P) (Fin := Fin) (news0 := news0) k (i + 1) (as ++ [h₂.objs.size]) nd' (fun as' hl hn => h as' (by rw [hl, List.length_append, List.length_singleton]; omega) hn)
      rw [List.map_append] at ih
      exact ih
inductive L16 (as : List Addr) : Prop where
  | mk (q0 q1 q2 q3 q4 q5 q6 q7 q8 q9 q10 q11 q12 q13 q14 q15 : Addr) (e : as = [q0, q1, q2, q3, q4, q5, q6, q7, q8, q9, q10, q11, q12, q13, q14, q15]) : L16 as
theorem un {n : Nat} {P : List Addr → Prop} (k : ∀ a t, t.length = n → P (a :: t)) : ∀ as : List Addr, as.length = n + 1 → P as
  | [], h => nomatch h
  | a :: t, h => k a t (Nat.succ.inj h)
theorem len16 {as : List Addr} (h : as.length = 16) : L16 as := by
  refine un (fun q0 => un fun q1 => un fun q2 => un fun q3 => un fun q4 => un fun q5 => un fun q6 => un fun q7 => un fun q8 => un fun q9 => un fun q10 => un fun q11 => un fun q12 => un fun q13 => un fun q14 => un fun q15 a h => ?_) as h
  obtain rfl := List.eq_nil_of_length_eq_zero h
  exact ⟨q0, q1, q2, q3, q4, q5, q6, q7, q8, q9, q10, q11, q12, q13, q14, q15, rfl⟩
theorem comp16 {prog : Program} {w : World} {A : Around} {h₀ : Heap} {L : Addr} {m : PySem.Str → Option Value} {env : Env} {pos : Pos} {x : PySem.Str} {scope : Scope} {cl : List (PySem.Str × Addr)} {s : Shared} {P : Nat → Value → Prop}
    {Q : Value → Shared → Prop} {news0 : List (Addr × Obj)} (nd : (news0.map (·.1)).Nodup)
    (h : ∀ (q0 q1 q2 q3 q4 q5 q6 q7 q8 q9 q10 q11 q12 q13 q14 q15 D : Addr) (h' : Heap) (tk : Nat), Fr h₀ L h' m →
      News h₀ L h' ((D, { cls := .type "list", data := .seq [Value.ref q0, .ref q1, .ref q2, .ref q3, .ref q4, .ref q5, .ref q6, .ref q7, .ref q8, .ref q9, .ref q10, .ref q11, .ref q12, .ref q13, .ref q14, .ref q15].toArray 16 }) ::
        (q2, { cls := .type "list", data := .seq [].toArray 0 }) :: (q12, { cls := .type "list", data := .seq [].toArray 0 }) :: news0) → (D :: q2 :: q12 :: news0.map (·.1)).Nodup → Q (.ref D) { s with heap := h', toks := tk }) :
    LCg.CompRest prog w A h₀ L m env (.List [] pos) x scope cl s (fun _ => True) P (LCg.FinE h₀ L m s Q) 16 0 [] news0 := by
  refine comp_empties 16 0 [] nd (fun as hl nd' => ?_)
  obtain ⟨q0, q1, q2, q3, q4, q5, q6, q7, q8, q9, q10, q11, q12, q13, q14, q15, rfl⟩ := len16 hl
  intro D h' tk F N o1
  have o1' : ∀ p ∈ [q0, q1, q2, q3, q4, q5, q6, q7, q8, q9, q10, q11, q12, q13, q14, q15].map lst0 ++ news0, p.1 ≠ D := by
    have aux : ∀ l : List (Addr × Obj), LCg.Off1 D l → ∀ p ∈ l, p.1 ≠ D := by
      intro l
      induction l with
      | nil => intro _ p hp; cases hp
      | cons a l ih =>
        intro ⟨h1, h2⟩ p hp
        rcases List.mem_cons.mp hp with rfl | hp
        · exact h1
        · exact ih h2 p hp
    exact aux _ o1
  refine h q0 q1 q2 q3 q4 q5 q6 q7 q8 q9 q10 q11 q12 q13 q14 q15 D h' tk F (fun p hp => N p ?_) ?_
  · rcases List.mem_cons.mp hp with rfl | hp
    · exact List.mem_cons_self
    rcases List.mem_cons.mp hp with rfl | hp
    · exact List.mem_cons_of_mem _ (List.mem_append_left _ (List.mem_map_of_mem (f := lst0) (show q2 ∈ _ by simp)))
    rcases List.mem_cons.mp hp with rfl | hp
    · exact List.mem_cons_of_mem _ (List.mem_append_left _ (List.mem_map_of_mem (f := lst0) (show q12 ∈ _ by simp)))
    · exact List.mem_cons_of_mem _ (List.mem_append_right _ hp)
  · have sub : (q2 :: q12 :: news0.map (·.1)).Nodup := by
      refine List.Nodup.sublist ?_ nd'
      show List.Sublist ([q2, q12] ++ news0.map (·.1)) _
      refine List.Sublist.append ?_ (List.Sublist.refl _)
      refine .cons _ (.cons _ (.cons₂ _ (.cons _ (.cons _ (.cons _ (.cons _ (.cons _ (.cons _ (.cons _ (.cons _ (.cons _ (.cons₂ _ (List.nil_sublist _)))))))))))))
    refine List.nodup_cons.mpr ⟨fun q => ?_, sub⟩
    rcases List.mem_cons.mp q with rfl | q
    · exact o1' (lst0 D) (List.mem_append_left _ (List.mem_map_of_mem (f := lst0) (show D ∈ _ by simp))) rfl
    rcases List.mem_cons.mp q with rfl | q
    · exact o1' (lst0 D) (List.mem_append_left _ (List.mem_map_of_mem (f := lst0) (show D ∈ _ by simp))) rfl
    · obtain ⟨p, hp, rfl⟩ := List.mem_map.mp q
      exact o1' p (List.mem_append_right _ hp) rfl
end Mine
end PartCi
section PartC1
theorem Mine.flush1 : True := by first | (w_top off; walk1) | trivial
open PySem PySem.W PySem.Calls PyProof.Rows
set_option Elab.async false
set_option maxRecDepth 100000
set_option maxHeartbeats 4000000
set_option rowWalk.seconds 0
set_option pp.maxSteps 6000
namespace Mine
abbrev srcO (a : Int) (ta : Tok) (b : Int) (tb : Tok) (n : Nat) : Obj := { cls := .type "list", data := .seq #[.int a ta, .int b tb] n }
inductive TakePost (src : Addr) (top : Int) (v : Value) (nl : List (Addr × Obj)) : Prop where
  | mk (k : _) (t : _) (a : _) (ta : _) (b : _) (tb : _) (n : _) (hh1 : v = .int k t) (hh2 : 0 ≤ k) (hh3 : k < top) (hh4 : 0 ≤ a) (hh5 : 0 ≤ b) (hh6 : b < 2147483647) (hh7 : nl = [(src, srcO a ta b tb n)]) : TakePost src top v nl
theorem fm_lo (x y : Int) (h : 1 ≤ y) : 0 ≤ x.fmod y := Int.fmod_nonneg_of_pos x (by omega)
theorem fm_hi (x y : Int) (h : 1 ≤ y) : x.fmod y < y := Int.fmod_lt_of_pos x (by omega)
theorem fd_lo (x y : Int) (hx : 0 ≤ x) (h : 1 ≤ y) : 0 ≤ x.fdiv y := by
  rw [Int.fdiv_eq_ediv_of_nonneg _ (by omega)]
  exact Int.ediv_nonneg hx (by omega)
theorem bits_mod (a x : Int) : Builtin.Int.intBits ([a, x.fmod 2147483647].getD (Int.toNat 1) 0) ≤ 64 := by
  have h1 := fm_lo x 2147483647 (by decide)
  have h2 := fm_hi x 2147483647 (by decide)
  exact intBits_le_64 (by show -(2 ^ 64) < x.fmod 2147483647; omega) (by show x.fmod 2147483647 < 2 ^ 64; omega)
set_option hygiene false in
local macro_rules | `(tactic| mul_fits) => `(tactic| exact PySem.IntMulOk.of_left (bits_mod _ _))
theorem take_sp (w : World) (src : Addr) (top : Int) (tt : Tok) (a : Int) (ta : Tok) (b : Int) (tb : Tok) (n : Nat) (ha : 0 ≤ a) (hb : 0 ≤ b) (hb2 : b < 2147483647) (h1 : 1 ≤ top) (h2 : top ≤ 1000) :
    Sp w 900 5000 1095 [.ref src, .int top tt] [(src, srcO a ta b tb n)] (TakePost src top) := by
  refine Sp.enter (binds := [("source", .ref src), ("top", .int top tt)]) (by k_is) (by k_is) (by decide) (fun s X => BindsTo.of_eq rfl) (locs rfl) ?_
  intro env outer base g mean mg mb L' h₁ s Q E B X T F N ND ret
  revert ha hb hb2 h1 h2 B X T F N ND ret
  revert w src top tt a ta b tb n env outer base g mean mg mb L' h₁ s Q E
  (iterate 3 (refine dum ?_))
  refine eps24 (by repeat' (first | refine @instNonemptyProd _ _ ?_ ?_ | infer_instance | exact neW | exact neS)) ?_
  intro ha hb hb2 h1 h2 B X T F N ND ret
  (repeat' (first | (k_unfold; (try dsimp only)) | (k_end; wrow_close) | ((with_reducible show wpAny _ _ (eval (Expr.Name _ _) _) _ _ _); first | ((k_here; (with_reducible first | (refine nmL (by first | exact nf1095.1 | exact nf1095.2.1 | exact nf1095.2.2.1) (by k_asm) (by k_dflt (exact Eq.refl (some _))) ?_) | (refine nmB nf1095.2.2.2.1 (bk_int _) (by k_asm) (by k_asm) (by k_asm) ?_))))) | walk1 | (dsimp only; walk1) | (leave1; (try dsimp only)) | fail "no step"))
  all_goals (try dsimp only)
  all_goals (try k_unfold)
  all_goals (try dsimp only)
  · exact ret _ _ _ _ _ ⟨_, _, _, _, _, _, _, rfl, fm_lo _ _ h1, fm_hi _ _ h1, fd_lo _ _ ha h1, hb, hb2, rfl⟩ (by assumption) (by assumption) (by simp)
  · exact ret _ _ _ _ _ ⟨_, _, _, _, _, _, _, rfl, fm_lo _ _ h1, fm_hi _ _ h1, ha, fm_lo _ _ (by decide), fm_hi _ _ (by decide), rfl⟩ (by assumption) (by assumption) (by simp)
end Mine
end PartC1
section PartC2
theorem Mine.flush2 : True := by first | (w_top off; walk1) | trivial
open PySem PySem.W PySem.Calls PyProof.Rows
set_option Elab.async false
set_option maxRecDepth 100000
set_option maxHeartbeats 4000000
set_option rowWalk.seconds 0
set_option pp.maxSteps 6000
namespace Mine
abbrev listO (vs : List Value) (n : Nat) : Obj := { cls := .type "list", data := .seq vs.toArray n }
inductive OnePost (src : Addr) (th : Addr) (vs : List Value) (m : Nat) (v : Value) (nl : List (Addr × Obj)) : Prop where
  | mk (a : _) (ta : _) (b : _) (tb : _) (n : _) (hh1 : v ∈ vs) (hh2 : 0 ≤ a) (hh3 : 0 ≤ b) (hh4 : b < 2147483647) (hh5 : nl = [(src, srcO a ta b tb n), (th, listO vs m)]) : OnePost src th vs m v nl
set_option hygiene false in
local macro_rules | `(tactic| kp_flats) => `(tactic| first | exact PickN.nil | (with_reducible exact TakeN.here) | (apply PickN.cons; (focus kp_flats); kp_flats) | (apply TakeN.there; kp_flats) | exact TakeN.here)
set_option hygiene false in
local macro_rules | `(tactic| ktr_rel) => `(tactic| ((first | apply Pick.ofI _ ((?_ : PickGo _ _ _ _) ?_) | apply Sel.ofI _ ((?_ : SelGo _ _ _ _) ?_)); rotate_right; kp_flats; intro _; exact Eq.refl _))
set_option hygiene false in
local macro_rules | `(tactic| k_mem) => `(tactic| (focus (apply memI _ ((?_ : MemGo _ _ _ _) ?_); rotate_right; kp_flats; intro _; exact Eq.refl _)))

theorem one_sp (w : World) (src th : Addr) (vs : List Value) (m : Nat) (a : Int) (ta : Tok) (b : Int) (tb : Tok) (n : Nat) (ha : 0 ≤ a) (hb : 0 ≤ b) (hb2 : b < 2147483647) (h1 : 1 ≤ vs.length) (h2 : vs.length ≤ 10) :
    Sp w 890 4900 1102 [.ref src, .ref th] [(src, srcO a ta b tb n), (th, listO vs m)] (OnePost src th vs m) := by
  refine Sp.enter (binds := [("source", .ref src), ("things", .ref th)]) (by k_is) (by k_is) (by decide) (fun s X => BindsTo.of_eq rfl) (locs rfl) ?_
  intro env outer base g mean mg mb L' h₁ s Q E B X T F N ND ret
  k_fold
  (repeat' (first | (k_unfold; (try dsimp only)) | (k_end; wrow_close) | ((with_reducible show wpAny _ _ (eval (Expr.Name _ _) _) _ _ _); first | ((k_here; (with_reducible first | (refine nmL (by first | exact nf1102.1 | exact nf1102.2.1) (by k_asm) (by k_dflt (exact Eq.refl (some _))) ?_) | (refine nmK nf1102.2.2.1 (gk_law_take _) (by k_asm) (by k_asm) (by k_asm) ?_) | (refine nmB nf1102.2.2.2.1 (bk_len _) (by k_asm) (by k_asm) (by k_asm) ?_))))) | walk1 | (dsimp only; walk1) | (leave1; (try dsimp only)) | fail "no step"))
  refine PyProof.Rows.len_list (News.isList N (.tail _ (.head _))) (by simp only [List.size_toArray]; omega) ?_
  simp only [List.size_toArray]
  (repeat' (first | (k_unfold; (try dsimp only)) | (k_end; wrow_close) | ((with_reducible show wpAny _ _ (call (Value.ref _) _) _ _ _); first | (((with_reducible show wpAny _ _ (call (Value.ref 1095) _) _ _ _); k_dflt ((refine Sp.use (take_sp _ _ _ _ _ _ _ _ _ ?a1 ?a2 ?a3 ?a4 ?a5) (by k_asm) (by k_asm) (by k_asm) (by k_asm) (by k_asm) rfl rfl rfl rfl (nb rfl) (nb rfl) (by ktr_rel) (by first | assumption | (simp_all; done)) ?_; (case a1 => first | assumption | omega); (case a2 => first | assumption | omega); (case a3 => first | assumption | omega); (case a4 => first | assumption | omega | (simp; omega)); (case a5 => first | assumption | omega | (simp; omega)); k_whole); intro v9 nl9 h9 tk9 P9; obtain ⟨k9, t9, a9, ta9, b9, tb9, n9, rfl, p91, p92, p93, p94, p95, rfl⟩ := P9; intro F9 N9 ND9; dsimp only [List.cons_append, List.nil_append] at N9 ND9; (try k_sweep); (try dsimp only))))) | walk1 | (dsimp only; walk1) | (leave1; (try dsimp only)) | fail "no step"))
  have hlt : k9.toNat < vs.length := by omega
  refine PyProof.Rows.item_list (News.isList N9 (.tail _ (.head _))) p91 (by omega) (by rw [List.getElem?_toArray]; exact List.getElem?_eq_getElem hlt) ?_
  k_steps
  all_goals (try dsimp only)
  all_goals (try k_unfold)
  all_goals (try dsimp only)
  exact ret _ _ _ _ _ ⟨_, _, _, _, _, List.getElem_mem hlt, p93, p94, p95, rfl⟩ (by assumption) N9 ND9
end Mine
end PartC2
section PartLi
open PySem PySem.W PySem.Calls PyProof.Rows PyProof.V PySem.Spec PySem.SeqAt
set_option Elab.async false
set_option maxRecDepth 100000
set_option maxHeartbeats 400000
namespace Mine
/-- the same int, or the same bytes -/
inductive EqV : Value → Value → Prop
  | int {a b : Int} {t u : Tok} : a = b → EqV (.int a t) (.int b u)
  | bytes {a b : Array UInt8} {t u : Tok} : a = b → EqV (.bytes a t) (.bytes b u)
inductive EqVs : List Value → List Value → Prop
  | nil : EqVs [] []
  | cons {v u : Value} {vs us : List Value} : EqV v u → EqVs vs us → EqVs (v :: vs) (u :: us)
theorem EqVs.len {vs us : List Value} (h : EqVs vs us) : vs.length = us.length := by
  induction h with
  | nil => rfl
  | cons _ _ ih => rw [List.length_cons, List.length_cons, ih]
theorem EqV.at {A : Around} {s : Shared} {v u : Value} (h : EqV v u) : EqAt A s v u true := by
  cases h with
  | @int a b t u h =>
    subst h
    have z := EqAt.int_int (A := A) (s := s) a t a u
    rwa [beq_self_eq_true] at z
  | bytes h => subst h; exact fun prog w E Q hq => eqBool_bytes (by rw [decide_eq_true rfl]; exact hq)
theorem EqVs.at {A : Around} {s : Shared} {vs us : List Value} (h : EqVs vs us) : ∀ j (h1 : j < vs.toArray.size) (h2 : j < us.toArray.size), EqAt A s vs.toArray[j] us.toArray[j] true := by
  induction h with
  | nil => intro j h1; exact absurd h1 (by simp)
  | cons h _ ih =>
    intro j h1 h2
    cases j with
    | zero => exact h.at
    | succ j => exact ih j (by simpa using h1) (by simpa using h2)
section
variable {prog : Program} {w : World} {A : Around} {E : Value → Shared → Prop} {s : Shared} {h₀ : Heap} {L : Addr} {m : PySem.Str → Option Value} {news news' : List (Addr × Obj)} {l b : Addr}
theorem isListO {vs : List Value} {n : Nat} (N : News h₀ L s.heap news) (hm : (l, listO vs n) ∈ news) : s.heap.IsList l vs.toArray := ⟨_, N.get hm, rfl, n, rfl⟩
theorem eq_vals {vs us : List Value} {n k : Nat} {Q : Value → Shared → Prop} (N : News h₀ L s.heap news) (h1 : (l, listO vs n) ∈ news) (h2 : (b, listO us k) ∈ news) (he : EqVs vs us) (hu : A.units < cLine)
    (h : Q (.bool true) s) : wpAny (model prog w) A (compareOp .Eq (.ref l) (.ref b)) Q E s := by
  refine eq_listAt (e := fun _ => true) (isListO N h1) (isListO N h2) (by simpa using he.len) hu (fun j h1 h2 => he.at j h1 h2) ?_
  have : (List.range vs.toArray.size).all (fun _ => true) = true := by simp
  rw [this]
  exact h
theorem ne_vals {vs us : List Value} {n k : Nat} {Q : Value → Shared → Prop} (N : News h₀ L s.heap news) (h1 : (l, listO vs n) ∈ news) (h2 : (b, listO us k) ∈ news) (he : EqVs vs us) (hu : A.units < cLine)
    (h : Q (.bool false) s) : wpAny (model prog w) A (compareOp .NotEq (.ref l) (.ref b)) Q E s := by
  have z := RcNeAt.lists (e := fun _ => true) (isListO N h1) (isListO N h2) (by simpa using he.len) hu (fun j h1 h2 => he.at j h1 h2)
  have : (!(List.range vs.toArray.size).all (fun _ => true)) = false := by simp
  rw [this] at z
  exact z prog w E Q h
theorem ne_valsD {vs us : List Value} {n k : Nat} {r1 r2 : List (Addr × Obj)} {Q : Value → Shared → Prop} (N : News h₀ L s.heap news) (T1 : Pick [(l, listO vs n)] news r1) (T2 : Pick [(b, listO us k)] r1 r2) (he : EqVs vs us) (hu : A.units < cLine)
    (h : News h₀ L s.heap r2 → Q (.bool false) s) : wpAny (model prog w) A (compareOp .NotEq (.ref l) (.ref b)) Q E s :=
  ne_vals N (T1.take.mem_iff.mp (.head _)) (T1.take.mem_iff.mp (.tail _ (T2.take.mem_iff.mp (.head _)))) he hu (h fun p hp => N p (T1.take.mem_iff.mp (.tail _ (T2.take.mem_iff.mp (.tail _ hp)))))
end
end Mine
end PartLi
section SecBase
open PySem PySem.W PySem.Calls PyProof.Rows Mine
set_option autoImplicit true in
theorem Mine.gd0 (h : wpAny M A (callWith x1 (Value.ref x2) x3 (backTo x4 (starEach [] x5)) []) Q E s) : wpAny M A (callWith x1 (Value.ref x2) x3 (backTo x4 (starEach [] x5)) []) Q E s := h
set_option autoImplicit true in
theorem Mine.gd1 (h : wpAny M A (call (Value.type "bytes") [Value.ref x1]) Q E s) : wpAny M A (call (Value.type "bytes") [Value.ref x1]) Q E s := h
set_option autoImplicit true in
theorem Mine.gd2 (h : wpAny M A (binaryOp Operator.Add (Value.bytes (byteArr x1) x2) (Value.bytes (byteArr x3) x4)) Q E s) : wpAny M A (binaryOp Operator.Add (Value.bytes (byteArr x1) x2) (Value.bytes (byteArr x3) x4)) Q E s := h
set_option autoImplicit true in
theorem Mine.gd3 (h : wpAny M A (getMethod (Value.ref x1) "extend" x2) Q E s) : wpAny M A (getMethod (Value.ref x1) "extend" x2) Q E s := h
set_option autoImplicit true in
theorem Mine.gd4 (h : wpAny M A (call (Value.builtin "len") [Value.ref x1]) Q E s) : wpAny M A (call (Value.builtin "len") [Value.ref x1]) Q E s := h
set_option autoImplicit true in
theorem Mine.gd5 (h : wpAny M A (subscriptTail x1 (PySem.Expr.Slice x2 x3 none x4) (Value.ref x5) (Value.ref x6)) Q E s) : wpAny M A (subscriptTail x1 (PySem.Expr.Slice x2 x3 none x4) (Value.ref x5) (Value.ref x6)) Q E s := h
set_option autoImplicit true in
theorem Mine.gd6 (h : wpAny M A (subscriptTail x1 (PySem.Expr.Slice x2 x3 none x4) (Value.bytes x5 x6) (Value.ref x7)) Q E s) : wpAny M A (subscriptTail x1 (PySem.Expr.Slice x2 x3 none x4) (Value.bytes x5 x6) (Value.ref x7)) Q E s := h
set_option autoImplicit true in
theorem Mine.gd7 (h : wpAny M A (call (Value.type "bytes") [Value.bytes x1 x2]) Q E s) : wpAny M A (call (Value.type "bytes") [Value.bytes x1 x2]) Q E s := h
set_option autoImplicit true in
theorem Mine.gd8 (h : wpAny M A (compareOp CmpOp.Eq (Value.ref x1) (Value.ref x2)) Q E s) : wpAny M A (compareOp CmpOp.Eq (Value.ref x1) (Value.ref x2)) Q E s := h
set_option autoImplicit true in
theorem Mine.gd9 (h : wpAny M A (compareOp CmpOp.NotEq (Value.ref x1) (Value.ref x2)) Q E s) : wpAny M A (compareOp CmpOp.NotEq (Value.ref x1) (Value.ref x2)) Q E s := h
set_option autoImplicit true in
theorem Mine.gd10 (h : wpAny M A (exec (Stmt.For (PySem.Expr.Tuple x1 x2 x3) x4 x5 [] x6) x7) Q E s) : wpAny M A (exec (Stmt.For (PySem.Expr.Tuple x1 x2 x3) x4 x5 [] x6) x7) Q E s := h
set_option autoImplicit true in
theorem Mine.gd11 (h : wpAny M A (compareOp CmpOp.NotEq (Value.int x1 x2) (Value.int x3 x4)) Q E s) : wpAny M A (compareOp CmpOp.NotEq (Value.int x1 x2) (Value.int x3 x4)) Q E s := h
set_option autoImplicit true in
theorem Mine.gd12 (h : wpAny M A (subscriptTail x1 x2 (Value.ref x3) (Value.str x4 x5)) Q E s) : wpAny M A (subscriptTail x1 x2 (Value.ref x3) (Value.str x4 x5)) Q E s := h
set_option autoImplicit true in
theorem Mine.gd13 (h : wpAny M A (eval (PySem.Expr.IfExp x1 (PySem.Expr.Constant x2 x3 x4) x5 x6) x7) Q E s) : wpAny M A (eval (PySem.Expr.IfExp x1 (PySem.Expr.Constant x2 x3 x4) x5 x6) x7) Q E s := h
set_option autoImplicit true in
theorem Mine.gd14 (h : wpAny M A (eval (PySem.Expr.IfExp x1 (PySem.Expr.Call x2 x3 x4 x5) x6 x7) x8) Q E s) : wpAny M A (eval (PySem.Expr.IfExp x1 (PySem.Expr.Call x2 x3 x4 x5) x6 x7) x8) Q E s := h
set_option autoImplicit true in
theorem Mine.gd15 (h : wpAny M A (call (Value.type "bytes") [Value.int x1 x2]) Q E s) : wpAny M A (call (Value.type "bytes") [Value.int x1 x2]) Q E s := h
set_option hygiene false in
local macro_rules | `(tactic| kaf_pre) => `(tactic| first | assumption | omega | exact Nat.le_of_ble_eq_true rfl | (split <;> omega) | (simp; done) | (simp; omega))
set_option hygiene false in
local macro_rules | `(tactic| kp_flats) => `(tactic| first | exact PickN.nil | (with_reducible exact TakeN.here) | (apply PickN.cons; (focus kp_flats); kp_flats) | (apply TakeN.there; kp_flats) | exact TakeN.here)
set_option hygiene false in
local macro_rules | `(tactic| ktr_rel) => `(tactic| ((first | apply Pick.ofI _ ((?_ : PickGo _ _ _ _) ?_) | apply Sel.ofI _ ((?_ : SelGo _ _ _ _) ?_)); rotate_right; kp_flats; intro _; exact Eq.refl _))
set_option hygiene false in
local macro_rules | `(tactic| k_mem) => `(tactic| (focus (apply memI _ ((?_ : MemGo _ _ _ _) ?_); rotate_right; kp_flats; intro _; exact Eq.refl _)))
set_option hygiene false in
local macro_rules | `(tactic| k_ne) => `(tactic| (refine neN ?_; (try dsimp only); first | exact NN.ne (by with_reducible assumption) | exact NN.ne' (by with_reducible assumption) | exact Nat.ne_of_lt (by with_reducible assumption) | exact Nat.ne_of_gt (by with_reducible assumption) | exact nd_ne ND9 (by ktr_rel) | omega))
set_option hygiene false in
local macro_rules | `(tactic| lcg_off) => `(tactic| first | (with_reducible exact allNe_nil) | ((with_reducible refine nd_cons ?_ ?_) <;> lcg_off) | ((with_reducible refine allNe_cons ?_ ?_) <;> lcg_off) | (exact NN.ne (by with_reducible assumption)) | (exact NN.ne' (by with_reducible assumption)) | (exact Nat.ne_of_lt (by with_reducible assumption)) | (exact Nat.ne_of_gt (by with_reducible assumption)) | exact List.nodup_nil | (with_reducible assumption) | (exact Ne.symm (by with_reducible assumption)) | (exact nd_ne ND9 (by ktr_rel)) | (refine neN ?_; omega))
set_option hygiene false in
local macro_rules | `(tactic| k_allIn) => `(tactic| first | (with_reducible assumption) | ((have nd9 := ND9); (dsimp only [mapc, mapn] at nd9 ⊢); exact nd_pickA nd9 (by ktr_rel)) | ((repeat (with_reducible rename _ ∧ _ => hl9; cases hl9)); lcg_off))
set_option hygiene false in
local macro_rules | `(tactic| walk_at "eval Call Attribute") => `(tactic| (k_here; k_dflt (refine MethodCall_ ?_)))
set_option hygiene false in
local macro_rules | `(tactic| walk_at "eval Call") => `(tactic| (k_here; k_dflt (refine Call_ ?_)))
set_option hygiene false in
local macro_rules | `(tactic| walk_at "exec If") => `(tactic| refine wpAny_If ?_)
set_option hygiene false in
local macro_rules | `(tactic| walk_at "callWith ref") => `(tactic| (k_here; (with_reducible refine gd0 ?_); k_dflt (refine' callWith_K0 (Frag.In.keeps ?k1 (Fr.keep ?k3)) ?k2 ?_; (case k1 => with_reducible assumption); (case k3 => with_reducible assumption); (case k2 => k_is); k_whole)))
set_option hygiene false in
local macro_rules | `(tactic| walk_at "callWith ref") => `(tactic| (k_here; (with_reducible show wpAny _ _ (callWith _ (Value.ref _) _ (backTo _ (starEach (_ :: _) _)) []) _ _ _); k_dflt (refine' callWith_K ?k1 ?k2 ?_; (case k1 => with_reducible assumption); (case k2 => k_is); k_whole)))
set_option hygiene false in
local macro_rules | `(tactic| walk_at "And") => `(tactic| ((with_reducible show Frag.In _ _ ∧ _); refine ⟨Frag.In.keeps (by with_reducible assumption) (Fr.keep (by with_reducible assumption)), ?_⟩; try dsimp only [List.nil_append, List.cons_append]))
theorem Mine.flush3 : True := by first | (w_top off; walk1) | trivial
section PartC3
theorem Mine.flush4 : True := by first | (w_top off; walk1) | trivial
open PySem PySem.W PySem.Calls PyProof.Rows
set_option Elab.async false
set_option maxRecDepth 100000
set_option maxHeartbeats 4000000
set_option rowWalk.seconds 0
set_option pp.maxSteps 6000
namespace Mine

theorem mem2 {v : Value} {x y : Int} {t u : Tok} (h : v ∈ [Value.int x t, Value.int y u]) : ∃ k tk, v = .int k tk ∧ (k = x ∨ k = y) := by
  simp only [List.mem_cons, List.not_mem_nil, or_false] at h
  rcases h with h | h
  · exact ⟨_, _, h, .inl rfl⟩
  · exact ⟨_, _, h, .inr rfl⟩
theorem mem3 {v : Value} {x y z : Int} {t u r : Tok} (h : v ∈ [Value.int x t, Value.int y u, Value.int z r]) : ∃ k tk, v = .int k tk ∧ (k = x ∨ k = y ∨ k = z) := by
  simp only [List.mem_cons, List.not_mem_nil, or_false] at h
  rcases h with h | h | h
  · exact ⟨_, _, h, .inl rfl⟩
  · exact ⟨_, _, h, .inr (.inl rfl)⟩
  · exact ⟨_, _, h, .inr (.inr rfl)⟩
theorem mem4 {v : Value} {x y z q : Int} {t u r s : Tok} (h : v ∈ [Value.int x t, Value.int y u, Value.int z r, Value.int q s]) : ∃ k tk, v = .int k tk ∧ (k = x ∨ k = y ∨ k = z ∨ k = q) := by
  simp only [List.mem_cons, List.not_mem_nil, or_false] at h
  rcases h with h | h | h | h <;> exact ⟨_, _, h, by simp⟩
theorem mem7 {v : Value} {x1 x2 x3 x4 x5 x6 x7 : Int} {t1 t2 t3 t4 t5 t6 t7 : Tok} (h : v ∈ [Value.int x1 t1, Value.int x2 t2, Value.int x3 t3, Value.int x4 t4, Value.int x5 t5, Value.int x6 t6, Value.int x7 t7]) :
    ∃ k tk, v = .int k tk ∧ (k = x1 ∨ k = x2 ∨ k = x3 ∨ k = x4 ∨ k = x5 ∨ k = x6 ∨ k = x7) := by
  simp only [List.mem_cons, List.not_mem_nil, or_false] at h
  rcases h with h | h | h | h | h | h | h <;> exact ⟨_, _, h, by simp⟩
abbrev tupO (vs : List Value) (n : Nat) : Obj := { cls := .type "tuple", data := .seq vs.toArray n }
def LimOk (ring mss room first least most : Int) : Prop :=
  (ring = 256 ∨ ring = 4294967296) ∧ 2 * room < ring ∧ 8 ≤ room ∧ room ≤ 70000 ∧ 1 ≤ mss ∧ mss ≤ 66000 ∧ 1 ≤ first ∧ first ≤ 20 ∧ 1 ≤ least ∧ least ≤ 6 ∧ 20 ≤ most ∧ most ≤ 79
theorem lim_ok {r mss room f l m : Int} (h : r = 256 ∧ (room = 8 ∨ room = 12 ∨ room = 30) ∧ (mss = 2 ∨ mss = 4 ∨ mss = 9) ∨ r = 2 ^ Int.toNat 32 ∧ (room = 8 ∨ room = 20 ∨ room = 70000) ∧ (mss = 2 ∨ mss = 5 ∨ mss = 66000))
    (f0 : 0 ≤ f) (f1 : f < 20) (l0 : 0 ≤ l) (l1 : l < 6) (m0 : 0 ≤ m) (m1 : m < 60) : LimOk r mss room (1 + f) (1 + l) (20 + m) := by
  have hr : r = 256 ∨ r = 4294967296 := h.imp (·.1) (fun h => h.1)
  have h2 : 2 * room < r ∧ 8 ≤ room ∧ room ≤ 70000 ∧ 1 ≤ mss ∧ mss ≤ 66000 := by
    rcases h with ⟨rfl, h, g⟩ | ⟨e, h, g⟩
    · have a : 2 * room < 256 ∧ 8 ≤ room ∧ room ≤ 70000 := by rcases h with rfl | rfl | rfl <;> decide
      have b : 1 ≤ mss ∧ mss ≤ 66000 := by rcases g with rfl | rfl | rfl <;> decide
      exact ⟨a.1, a.2.1, a.2.2, b⟩
    · have e : r = 4294967296 := e
      subst e
      have a : 2 * room < 4294967296 ∧ 8 ≤ room ∧ room ≤ 70000 := by rcases h with rfl | rfl | rfl <;> decide
      have b : 1 ≤ mss ∧ mss ≤ 66000 := by rcases g with rfl | rfl | rfl <;> decide
      exact ⟨a.1, a.2.1, a.2.2, b⟩
  exact ⟨hr, h2.1, h2.2.1, h2.2.2.1, h2.2.2.2.1, h2.2.2.2.2, by omega, by omega, by omega, by omega, by omega, by omega⟩
inductive LimPost (src : Addr) (v : Value) (nl : List (Addr × Obj)) : Prop where
  | mk (x : _) (r1 : _) (t1 : _) (r2 : _) (t2 : _) (r3 : _) (t3 : _) (r4 : _) (t4 : _) (r5 : _) (t5 : _) (r6 : _) (t6 : _) (m : _) (a : _) (ta : _) (b : _) (tb : _) (n : _) (hh1 : v = .ref x) (hh2 : LimOk r1 r2 r3 r4 r5 r6) (hh3 : 0 ≤ a) (hh4 : 0 ≤ b) (hh5 : b < 2147483647) (hh6 : nl = [(x, tupO [.int r1 t1, .int r2 t2, .int r3 t3, .int r4 t4, .int r5 t5, .int r6 t6] m), (src, srcO a ta b tb n)]) : LimPost src v nl

theorem limits_sp (w : World) (src : Addr) (a : Int) (ta : Tok) (b : Int) (tb : Tok) (n : Nat) (ha : 0 ≤ a) (hb : 0 ≤ b) (hb2 : b < 2147483647) :
    Sp w 880 4800 1109 [.ref src] [(src, srcO a ta b tb n)] (LimPost src) := by
  refine Sp.enter (binds := [("source", .ref src)]) (by k_is) (by k_is) (by decide) (fun s X => BindsTo.of_eq rfl) (locs rfl) ?_
  intro env outer base g mean mg mb L' h₁ s Q E B X T F N ND ret
  revert ha hb hb2 B X T F N ND ret
  revert w src a ta b tb n env outer base g mean mg mb L' h₁ s Q E
  refine eps19 (by repeat' (first | refine @instNonemptyProd _ _ ?_ ?_ | infer_instance | exact neW | exact neS)) ?_
  intro ha hb hb2 B X T F N ND ret
  have ND9 := ND
  (repeat' (first | (k_unfold; (try dsimp only)) | (k_end; wrow_close) | ((with_reducible show wpAny _ _ (eval (Expr.Name _ _) _) _ _ _); first | ((k_here; (with_reducible first | (refine nmL (by first | exact nf1109.1 | exact nf1109.2.1 | exact nf1109.2.2.1 | exact nf1109.2.2.2.1) (by k_asm) (by k_dflt (exact Eq.refl (some _))) ?_) | (refine nmK nf1109.2.2.2.2.1 (gk_law_one _) (by k_asm) (by k_asm) (by k_asm) ?_) | (refine nmK nf1109.2.2.2.2.2.1 (gk_law_take _) (by k_asm) (by k_asm) (by k_asm) ?_))))) | ((with_reducible show wpAny _ _ (call (Value.ref _) _) _ _ _); first | (((with_reducible show wpAny _ _ (call (Value.ref 1102) _) _ _ _); k_dflt (first | ((refine Sp.use (one_sp _ _ _ _ _ _ _ _ _ _ ?a1 ?a2 ?a3 ?a4 ?a5) (by k_asm) (by k_asm) (by k_asm) (by k_asm) (by k_asm) rfl rfl rfl rfl (nb rfl) (nb rfl) (by ktr_rel) ?znd ?_; (case znd => k_allIn); (case a1 => kaf_pre); (case a2 => kaf_pre); (case a3 => kaf_pre); (case a4 => kaf_pre); (case a5 => kaf_pre); k_whole); intro v9 nl9 h9 tk9 P9; obtain ⟨a9, ta9, b9, tb9, n9, p91, p93, p94, p95, rfl⟩ := P9; intro F9 N9 ND9; dsimp only [List.cons_append, List.nil_append] at N9 ND9; (try k_sweep); (try dsimp only); (first | (obtain ⟨k9, t9, rfl, q9⟩ := mem2 p91) | (obtain ⟨k9, t9, rfl, q9⟩ := mem3 p91) | (obtain ⟨k9, t9, rfl, q9⟩ := mem4 p91) | (obtain ⟨k9, t9, rfl, q9⟩ := mem7 p91)); clear p91)))) | (((with_reducible show wpAny _ _ (call (Value.ref 1095) _) _ _ _); k_dflt (first | ((refine Sp.use (take_sp _ _ _ _ _ _ _ _ _ ?a1 ?a2 ?a3 ?a4 ?a5) (by k_asm) (by k_asm) (by k_asm) (by k_asm) (by k_asm) rfl rfl rfl rfl (nb rfl) (nb rfl) (by ktr_rel) ?znd ?_; (case znd => k_allIn); (case a1 => kaf_pre); (case a2 => kaf_pre); (case a3 => kaf_pre); (case a4 => kaf_pre); (case a5 => kaf_pre); k_whole); intro v9 nl9 h9 tk9 P9; obtain ⟨k9, t9, a9, ta9, b9, tb9, n9, rfl, p91, p92, p93, p94, p95, rfl⟩ := P9; intro F9 N9 ND9; dsimp only [List.cons_append, List.nil_append] at N9 ND9; (try k_sweep); (try dsimp only)))))) | walk1 | (dsimp only; walk1) | (leave1; (try dsimp only)) | fail "no step"))
  all_goals (try dsimp only)
  all_goals (try k_unfold)
  all_goals (try dsimp only)
  all_goals (try k_unfold)
  all_goals (try dsimp only)
  all_goals (try k_unfold)
  all_goals (try dsimp only)
  all_goals (refine ret _ _ _ _ _ ⟨_, _, _, _, _, _, _, _, _, _, _, _, _, _, _, _, _, _, _, rfl, ?_, p93, p94, p95, rfl⟩ (by assumption) (news_pick (by assumption) (by ktr_rel)) (by k_allIn))
  all_goals (refine lim_ok ?lc (by assumption) (by assumption) (by assumption) (by assumption) (by assumption) (by assumption); case lc => first | exact .inl ⟨by assumption, by assumption, by assumption⟩ | exact .inr ⟨(Or.resolve_left (by assumption) (by assumption)), by assumption, by assumption⟩ | contradiction)
end Mine
end PartC3
section PartC4
theorem Mine.flush5 : True := by first | (w_top off; walk1) | trivial
open PySem PySem.W PySem.Calls PyProof.Rows
set_option Elab.async false
set_option maxRecDepth 100000
set_option maxHeartbeats 4000000
set_option rowWalk.seconds 0
set_option pp.maxSteps 6000
namespace Mine

abbrev de (w : World) (name : PySem.Str) (tk : Tok) (v : Value) : DictEntry := ⟨PyData.keyHash w.params name, .str name tk, v⟩
abbrev dictO (es : List DictEntry) (n : Nat) : Obj := { cls := .type "dict", data := .dict es.toArray n }
abbrev acksO (w : World) (k1 k2 k3 k4 t1 t2 : Tok) (wt : Int) (due : Value) (gap : Bool) : Obj :=
  dictO [de w "delay" k1 (.int 5 t1), de w "waiting" k2 (.int wt t2), de w "due" k3 due, de w "has_gap" k4 (.bool gap)] 4
def AckD (w : World) (r : Bool) (o : Obj) : Prop :=
  ∃ k1 k2 k3 k4 t1 t2 wt due, o = acksO w k1 k2 k3 k4 t1 t2 wt due false ∧ 0 ≤ wt ∧ wt ≤ 2 ∧ (due = .none ∨ ∃ t, due = .int 14 t) ∧
    (r = true → 2 ≤ wt ∨ ∃ t, due = .int 14 t) ∧ (r = false → wt = 0 ∧ due = .none)
inductive OnOct (w : World) (x : Addr) (d : Addr) (v : Value) (nl : List (Addr × Obj)) : Prop where
  | mk (o : _) (hh1 : AckD w true o) (hh2 : nl = [(x, instObj 74 d), (d, o)]) : OnOct w x d v nl
inductive OnSent (w : World) (x : Addr) (d : Addr) (v : Value) (nl : List (Addr × Obj)) : Prop where
  | mk (o : _) (hh1 : v = .none) (hh2 : AckD w false o) (hh3 : nl = [(x, instObj 74 d), (d, o)]) : OnSent w x d v nl
def IsDue (x d : Addr) (o : Obj) (r : Bool) (v : Value) (nl : List (Addr × Obj)) : Prop :=
  v = .bool r ∧ nl = [(x, instObj 74 d), (d, o)]
theorem onsent_sp (w : World) (r : Bool) (x d : Addr) (o : Obj) (ho : AckD w r o) : Sp w 870 4700 64 [.ref x] [(x, instObj 74 d), (d, o)] (OnSent w x d) := by
  obtain ⟨k1, k2, k3, k4, t1, t2, wt, due, rfl, h1, h2, h3, h4⟩ := ho
  refine Sp.enter (binds := [("self", .ref x)]) (by k_is) (by k_is) (by decide) (fun s X => BindsTo.of_eq rfl) (locs rfl) ?_
  intro env outer base g mean mg mb L' h₁ s Q E B X T F N ND ret
  obtain nx : @Ne Nat x d := by simpa using ND
  revert h1 h2 h3 h4 B X T F N ND ret nx
  revert w r x d k1 k2 k3 k4 t1 t2 wt due env outer base g mean mg mb L' h₁ s Q E
  refine eps24 (by repeat' (first | refine @instNonemptyProd _ _ ?_ ?_ | infer_instance | exact neW | exact neS)) ?_
  intro h1 h2 h3 h4 B X T F N ND ret nx
  have ND9 := ND
  have ret2 := fun v nl h tk m a b c d => ret v nl h tk m c a b d
  (repeat' (first | (k_unfold; (try dsimp only)) | (k_end; wrow_close) | ((with_reducible show wpAny _ _ (eval (Expr.Name _ _) _) _ _ _); first | ((k_here; (with_reducible first | (refine nmL (by first | exact nf43.1 | exact nf43.2.1 | exact nf43.2.2.1 | exact nf43.2.2.2.1 | exact nf43.2.2.2.2.1) (by k_asm) (by k_dflt (exact Eq.refl (some _))) ?_) | (refine nmL (by first | exact nf57.1 | exact nf57.2.1) (by k_asm) (by k_dflt (exact Eq.refl (some _))) ?_) | (refine nmL (by first | exact nf64.1) (by k_asm) (by k_dflt (exact Eq.refl (some _))) ?_))))) | walk1 | (dsimp only; walk1) | (leave1; (try dsimp only)) | fail "no step"))
  all_goals (try dsimp only)
  all_goals (try k_unfold)
  all_goals (try dsimp only)
  all_goals (try k_unfold)
  all_goals (try dsimp only)
  all_goals (try k_unfold)
  all_goals (try dsimp only)
  exact ret _ _ _ _ _ ⟨_, rfl, ⟨_, _, _, _, _, _, _, _, rfl, by decide, by decide, .inl rfl, fun h => (nomatch h), fun _ => ⟨rfl, rfl⟩⟩, rfl⟩ (by assumption) (by assumption) ND
theorem onoct_sp (w : World) (r : Bool) (x d : Addr) (o : Obj) (t9 : Tok) (ho : AckD w r o) : Sp w 870 4700 43 [.ref x, .bool true, .int 9 t9] [(x, instObj 74 d), (d, o)] (OnOct w x d) := by
  obtain ⟨k1, k2, k3, k4, t1, t2, wt, due, rfl, h1, h2, h3, h4⟩ := ho
  refine Sp.enter (binds := [("self", .ref x), ("in_order", .bool true), ("now", .int 9 t9), ("has_holes", .bool false)]) (by k_is) (by k_is) (by decide) (fun s X => binds_K X rfl (by k_is) rfl rfl rfl) (locs rfl) ?_
  intro env outer base g mean mg mb L' h₁ s Q E B X T F N ND ret
  obtain nx : @Ne Nat x d := by simpa using ND
  rcases h3 with rfl | ⟨td, rfl⟩
  all_goals (first | (revert h1 h2 B X T F ret nx h4 N ND; revert w r x d t9 k1 k2 k3 k4 t1 t2 wt env outer base g mean mg mb L' h₁ s Q E td; (iterate 3 (refine dum ?_)); refine eps28 (by repeat' (first | refine @instNonemptyProd _ _ ?_ ?_ | infer_instance | exact neW | exact neS)) ?_; intro h1 h2 B X T F ret nx h4 N ND) | (revert h1 h2 B X T F ret nx h4 N ND; revert w r x d t9 k1 k2 k3 k4 t1 t2 wt env outer base g mean mg mb L' h₁ s Q E; refine eps24 (by repeat' (first | refine @instNonemptyProd _ _ ?_ ?_ | infer_instance | exact neW | exact neS)) ?_; intro h1 h2 B X T F ret nx h4 N ND))
  all_goals have ND9 := ND
  all_goals have ret2 := fun v nl h tk m a b c d => ret v nl h tk m c a b d
  (repeat' (first | (k_unfold; (try dsimp only)) | (k_end; wrow_close) | ((with_reducible show wpAny _ _ (eval (Expr.Name _ _) _) _ _ _); first | ((k_here; (with_reducible first | (refine nmL (by first | exact nf43.1 | exact nf43.2.1 | exact nf43.2.2.1 | exact nf43.2.2.2.1 | exact nf43.2.2.2.2.1) (by k_asm) (by k_dflt (exact Eq.refl (some _))) ?_) | (refine nmL (by first | exact nf57.1 | exact nf57.2.1) (by k_asm) (by k_dflt (exact Eq.refl (some _))) ?_) | (refine nmL (by first | exact nf64.1) (by k_asm) (by k_dflt (exact Eq.refl (some _))) ?_))))) | walk1 | (dsimp only; walk1) | (leave1; (try dsimp only)) | fail "no step"))
  all_goals (try dsimp only)
  all_goals (try k_unfold)
  all_goals (try dsimp only)
  all_goals (try k_unfold)
  all_goals (try dsimp only)
  all_goals (try k_unfold)
  all_goals (try dsimp only)
  all_goals (with_reducible rename Fr _ _ _ _ => hf)
  all_goals (with_reducible rename News _ _ _ _ => hh)
  all_goals (refine ret2 _ _ _ _ _ hf hh ⟨_, ⟨_, _, _, _, _, _, _, _, rfl, ?_, ?_, ?_, ?_, ?_⟩, rfl⟩ ND)
  all_goals first | omega | decide | exact .inl rfl | exact .inr ⟨_, rfl⟩ | (intro h; cases h; done) | (intro _; first | exact .inr ⟨_, rfl⟩ | (left; first | omega | decide))
theorem isdue_sp (w : World) (r : Bool) (x d : Addr) (o : Obj) (t9 : Tok) (ho : AckD w r o) : Sp w 870 4700 57 [.ref x, .int 99 t9] [(x, instObj 74 d), (d, o)] (IsDue x d o r) := by
  obtain ⟨k1, k2, k3, k4, t1, t2, wt, due, rfl, h1, h2, h3, h4, h5⟩ := ho
  refine Sp.enter (binds := [("self", .ref x), ("now", .int 99 t9)]) (by k_is) (by k_is) (by decide) (fun s X => BindsTo.of_eq rfl) (locs rfl) ?_
  intro env outer base g mean mg mb L' h₁ s Q E B X T F N ND ret
  k_fold
  have ND9 := ND
  have ret2 := fun v nl h tk m a b c d => ret v nl h tk m c a b d
  have nx : @Ne Nat x d := by simpa using ND
  rcases h3 with rfl | ⟨td, rfl⟩
  (repeat' (first | (k_unfold; (try dsimp only)) | (k_end; wrow_close) | ((with_reducible show wpAny _ _ (eval (Expr.Name _ _) _) _ _ _); first | ((k_here; (with_reducible first | (refine nmL (by first | exact nf43.1 | exact nf43.2.1 | exact nf43.2.2.1 | exact nf43.2.2.2.1 | exact nf43.2.2.2.2.1) (by k_asm) (by k_dflt (exact Eq.refl (some _))) ?_) | (refine nmL (by first | exact nf57.1 | exact nf57.2.1) (by k_asm) (by k_dflt (exact Eq.refl (some _))) ?_) | (refine nmL (by first | exact nf64.1) (by k_asm) (by k_dflt (exact Eq.refl (some _))) ?_))))) | walk1 | (dsimp only; walk1) | (leave1; (try dsimp only)) | fail "no step"))
  all_goals (try dsimp only)
  all_goals (try k_unfold)
  all_goals (try dsimp only)
  all_goals (try k_unfold)
  all_goals (try dsimp only)
  all_goals (try k_unfold)
  all_goals (try dsimp only)
  all_goals cases r
  all_goals first | exact ret _ _ _ _ _ ⟨rfl, rfl⟩ (by assumption) (by assumption) ND | (exfalso; simp_all; done) | (exfalso; simp_all; omega)
end Mine
end PartC4
section PartS1
theorem Mine.flush6 : True := by first | (w_top off; walk1) | trivial
open PySem PySem.W PySem.Calls PyProof.Rows
set_option Elab.async false
set_option maxRecDepth 100000
set_option maxHeartbeats 4000000
set_option rowWalk.seconds 0
set_option pp.maxSteps 6000
namespace Mine

theorem mss_fit {m : Int} (h : 1 ≤ m) : ((0 : Int) ≤ 2 ∧ (2 : Int) < 256) ∧ ((0 : Int) ≤ 4 ∧ (4 : Int) < 256) ∧ (0 ≤ (if 65535 < m then 65535 else m) / 256 ∧ (if 65535 < m then 65535 else m) / 256 < 256) ∧ 0 ≤ (if 65535 < m then 65535 else m) % 256 ∧ (if 65535 < m then 65535 else m) % 256 < 256 := by
  have c : 0 ≤ (if 65535 < m then 65535 else m) ∧ (if 65535 < m then 65535 else m) < 65536 := by split <;> omega
  exact ⟨by decide, by decide, ⟨Int.ediv_nonneg c.1 (by decide), Int.ediv_lt_of_lt_mul (by decide) c.2⟩, Int.emod_nonneg _ (by decide), Int.emod_lt_of_pos _ (by decide)⟩
theorem bytes_list {prog : Program} {w : World} {A : Around} {E : Value → Shared → Prop} {s : Shared} {h₀ : Heap} {L : Addr} {m : PySem.Str → Option Value} {news : List (Addr × Obj)} {l : Addr} {vs : List Value} {ns : List Int} {n : Nat} {Q : Value → Shared → Prop}
    (G : Fr h₀ L s.heap m) (N : News h₀ L s.heap news) (hm : (l, listO vs n) ∈ news) (hh : A.handled = none) (hi : IntsAre vs ns) (hr : ∀ k ∈ ns, 0 ≤ k ∧ k < 256) (hz : vs.length ≤ 100)
    (h : ∀ h' t k, Fr h₀ L h' m → News h₀ L h' news → Q (.bytes (byteArr ns) t) { s with heap := h', toks := k }) : wpAny (model prog w) A (call (.type "bytes") [.ref l]) Q E s := by
  refine call_bytes_ints (l := l) (vs := vs) ⟨_, N.get hm, rfl, n, rfl⟩ hi hr (by rw [sizeLine_eq]; omega) hh fun h' t k hk => h h' t k ?_ fun p hp => ⟨hk _ _ (N p hp).1, (N p hp).2⟩
  obtain ⟨oL, es, ep, hL, q⟩ := G.ns
  exact ⟨⟨oL, es, ep, hk _ _ hL, q⟩, fun b o e => hk b o (G.keep b o e), G.above⟩
theorem byteArr_app2 (a b : List Int) : byteArr a ++ byteArr b = byteArr (a ++ b) := by simp [byteArr]
theorem byteArr_app (a b : List Int) : ((byteArr a).toList ++ (byteArr b).toList).toArray = byteArr (a ++ b) := by simp [byteArr]
set_option hygiene false in
local macro_rules | `(tactic| walk_at "call type:bytes") => `(tactic| (k_here; (with_reducible refine gd1 ?_); k_dflt ((refine bytes_list (by k_asm) (by k_asm) (by k_mem) rfl (by repeat constructor) (by simp only [List.forall_mem_cons, List.not_mem_nil, false_implies, implies_true, and_true]; omega) (by simp) ?_); intro h' _ _ F' N')))
set_option hygiene false in
local macro_rules | `(tactic| walk_at "binaryOp Add bytes bytes") => `(tactic| (k_here; (with_reducible refine gd2 ?_); k_dflt ((refine KBy.add_bytes (by rw [byteArr_size, byteArr_size]; decide) ?_); intro _ _)))
inductive P_mss_sp (n : Int) (v : Value) (nl : List (Addr × Obj)) : Prop where
  | mk (t : _) (hh1 : v = .bytes (byteArr [2, 4, n / 256, n % 256]) t) (hh2 : nl = []) : P_mss_sp n v nl
theorem mss_sp (w : World) (n : Int) (t : Tok) (h0 : 0 ≤ n) (h1 : n ≤ 65535) :
    Sp w 880 4800 720 [.int n t] [] (P_mss_sp n) := by
  have z : n.fdiv (2 ^ Int.toNat 16) = 0 := by
    show n.fdiv 65536 = 0
    rw [Int.fdiv_eq_ediv_of_nonneg _ (by decide)]; omega
  have z8 : n.fdiv (2 ^ Int.toNat 8) = n / 256 := by
    show n.fdiv 256 = _
    rw [Int.fdiv_eq_ediv_of_nonneg _ (by decide)]
  have b1 : Builtin.bitAnd n 255 = n % 256 := bitAnd_m8 n
  have b2 : Builtin.bitAnd (n.fdiv (2 ^ Int.toNat 8)) 255 = n / 256 := by
    rw [z8, bitAnd_m8]; omega
  refine Sp.enter (binds := [("n", .int n t)]) (by k_is) (by k_is) (by decide) (fun s X => BindsTo.of_eq rfl) (locs rfl) ?_
  intro env outer base g mean mg mb L' h₁ s Q E B X T F N ND ret
  revert h0 h1 z z8 b1 b2 B X T F N ND ret
  revert w n t env outer base g mean mg mb L' h₁ s Q E
  (iterate 4 (refine dum ?_))
  refine eps19 (by repeat' (first | refine @instNonemptyProd _ _ ?_ ?_ | infer_instance | exact neW | exact neS)) ?_
  intro h0 h1 z z8 b1 b2 B X T F N ND ret
  have ND9 := ND
  have ret2 := fun v nl h tk m a b c d => ret v nl h tk m c a b d
  (repeat' (first | (k_unfold; (try dsimp only)) | (k_end; wrow_close) | ((with_reducible show wpAny _ _ (eval (Expr.Name _ _) _) _ _ _); first | ((k_here; (with_reducible first | (refine nmL (by first | exact nf720.1) (by k_asm) (by k_dflt (exact Eq.refl (some _))) ?_) | (refine nmK nf720.2.1 (gk_check_number _) (by k_asm) (by k_asm) (by k_asm) ?_) | (refine nmK nf720.2.2.1 (gk_put16 _) (by k_asm) (by k_asm) (by k_asm) ?_) | (refine nmB nf720.2.2.2.1 (bk_bytes _) (by k_asm) (by k_asm) (by k_asm) ?_))))) | (first | (with_reducible refine ite_pos ?c9 ?_; (case c9 => first | with_reducible assumption | omega | (simp only [decide_eq_true_eq, decide_eq_false_iff_not]; omega))) | (with_reducible refine ite_neg ?c9 ?_; (case c9 => first | with_reducible assumption | omega | (simp only [decide_eq_true_eq, decide_eq_false_iff_not]; omega))) | (with_reducible refine ite_isFalse ?c9 ?_; (case c9 => with_reducible assumption))) | walk1 | (dsimp only; walk1) | (leave1; (try dsimp only)) | fail "no step"))
  all_goals (try dsimp only)
  all_goals (try k_unfold)
  all_goals (try dsimp only)
  all_goals (try k_unfold)
  all_goals (try dsimp only)
  all_goals (try k_unfold)
  all_goals (try dsimp only)
  all_goals first | (exfalso; with_reducible contradiction) | skip
  all_goals (try skip)
  all_goals (with_reducible rename Fr _ _ _ _ => hf)
  all_goals (with_reducible rename News _ _ _ _ => hh)
  all_goals (first | rw [byteArr_app, b1, b2] | rw [byteArr_app2, b1, b2])
  all_goals (refine ret2 _ _ _ _ _ hf (news_pick hh (by ktr_rel)) ⟨_, rfl, rfl⟩ ?_)
  all_goals k_allIn
end Mine
end PartS1
section PartR1
theorem Mine.flush7 : True := by first | (w_top off; walk1) | trivial
open PySem PySem.W PySem.Calls PyProof.Rows
set_option Elab.async false
set_option maxRecDepth 100000
set_option maxHeartbeats 4000000
set_option rowWalk.seconds 0
set_option pp.maxSteps 6000
namespace Mine

theorem fm_plus {U n ring : Int} (hr : ring = 256 ∨ ring = 4294967296) : Int.fmod (Int.fmod U ring + n) ring = Int.fmod (U + n) ring := by
  have p : 0 ≤ ring := hr.elim (fun e => e ▸ by decide) fun e => e ▸ by decide
  rw [Int.fmod_eq_emod_of_nonneg _ p, Int.fmod_eq_emod_of_nonneg _ p, Int.fmod_eq_emod_of_nonneg _ p]
  exact Int.emod_add_emod ..
theorem fm_dist {U V ring : Int} (hr : ring = 256 ∨ ring = 4294967296) (h0 : 0 ≤ V - U) (h1 : V - U < ring) : Int.fmod (Int.fmod V ring - Int.fmod U ring) ring = V - U := by
  have p : 0 ≤ ring := hr.elim (fun e => e ▸ by decide) fun e => e ▸ by decide
  rw [Int.fmod_eq_emod_of_nonneg _ p, Int.fmod_eq_emod_of_nonneg _ p, Int.fmod_eq_emod_of_nonneg _ p, ← Int.sub_emod]
  exact Int.emod_eq_of_lt h0 h1
theorem fm_distN {U V ring : Int} (hr : ring = 256 ∨ ring = 4294967296) (h0 : V - U < 0) (h1 : U - V < ring) : Int.fmod (Int.fmod V ring - Int.fmod U ring) ring = ring + V - U := by
  have p : 0 ≤ ring := hr.elim (fun e => e ▸ by decide) fun e => e ▸ by decide
  rw [Int.fmod_eq_emod_of_nonneg _ p, Int.fmod_eq_emod_of_nonneg _ p, Int.fmod_eq_emod_of_nonneg _ p, ← Int.sub_emod, ← Int.add_emod_right, Int.add_sub_assoc, Int.add_comm ring]
  exact Int.emod_eq_of_lt (by omega) (by omega)
inductive P_plus_sp (U : Int) (n : Int) (ring : Int) (v : Value) (nl : List (Addr × Obj)) : Prop where
  | mk (t : _) (hh1 : v = .int (Int.fmod (U + n) ring) t) (hh2 : nl = []) : P_plus_sp U n ring v nl
theorem plus_sp (w : World) (U n ring : Int) (t1 t2 t3 : Tok) (hr : ring = 256 ∨ ring = 4294967296) : Sp w 800 4000 169 [.int (Int.fmod U ring) t1, .int n t2, .int ring t3] [] (P_plus_sp U n ring) := by
  refine Sp.enter (binds := [("a", .int (Int.fmod U ring) t1), ("n", .int n t2), ("ring", .int ring t3)]) (by k_is) (by k_is) (by decide) (fun s X => BindsTo.of_eq rfl) (locs rfl) ?_
  intro env outer base g mean mg mb L' h₁ s Q E B X T F N ND ret
  obtain r0 : ring ≠ 0 := by omega
  revert hr B X T F N ND ret r0
  revert w U n ring t1 t2 t3 env outer base g mean mg mb L' h₁ s Q E
  refine eps19 (by repeat' (first | refine @instNonemptyProd _ _ ?_ ?_ | infer_instance | exact neW | exact neS)) ?_
  intro hr B X T F N ND ret r0
  have ND9 := ND
  have ret2 := fun v nl h tk m a b c d => ret v nl h tk m c a b d
  (repeat' (first | (k_unfold; (try dsimp only)) | (k_end; wrow_close) | ((with_reducible show wpAny _ _ (eval (Expr.Name _ _) _) _ _ _); first | ((k_here; (with_reducible first | (refine nmL (by first | exact nf169.1 | exact nf169.2.1 | exact nf169.2.2.1) (by k_asm) (by k_dflt (exact Eq.refl (some _))) ?_) | (refine nmL (by first | exact nf176.1 | exact nf176.2.1 | exact nf176.2.2.1) (by k_asm) (by k_dflt (exact Eq.refl (some _))) ?_) | (refine nmL (by first | exact nf183.1 | exact nf183.2.1 | exact nf183.2.2.1 | exact nf183.2.2.2.1) (by k_asm) (by k_dflt (exact Eq.refl (some _))) ?_) | (refine nmK nf183.2.2.2.2.1 (gk_distance _) (by k_asm) (by k_asm) (by k_asm) ?_))))) | (first | (with_reducible refine ite_pos ?c9 ?_; (case c9 => first | with_reducible assumption | omega | (simp only [decide_eq_true_eq, decide_eq_false_iff_not]; omega))) | (with_reducible refine ite_neg ?c9 ?_; (case c9 => first | with_reducible assumption | omega | (simp only [decide_eq_true_eq, decide_eq_false_iff_not]; omega))) | (with_reducible refine ite_isFalse ?c9 ?_; (case c9 => with_reducible assumption))) | walk1 | (dsimp only; walk1) | (leave1; (try dsimp only)) | fail "no step"))
  all_goals (try dsimp only)
  all_goals (try k_unfold)
  all_goals (try dsimp only)
  all_goals (try k_unfold)
  all_goals (try dsimp only)
  all_goals (try k_unfold)
  all_goals (try dsimp only)
  all_goals (rw [fm_plus hr])
  all_goals (refine ret2 _ _ _ _ _ (by assumption) (by assumption) ⟨_, rfl, rfl⟩ ND)
inductive P_plus0_sp (a : Int) (n : Int) (ring : Int) (v : Value) (nl : List (Addr × Obj)) : Prop where
  | mk (t : _) (hh1 : v = .int (Int.fmod (a + n) ring) t) (hh2 : nl = []) : P_plus0_sp a n ring v nl
theorem plus0_sp (w : World) (a n ring : Int) (t1 t2 t3 : Tok) (hr : ring = 256 ∨ ring = 4294967296) : Sp w 800 4000 169 [.int a t1, .int n t2, .int ring t3] [] (P_plus0_sp a n ring) := by
  refine Sp.enter (binds := [("a", .int a t1), ("n", .int n t2), ("ring", .int ring t3)]) (by k_is) (by k_is) (by decide) (fun s X => BindsTo.of_eq rfl) (locs rfl) ?_
  intro env outer base g mean mg mb L' h₁ s Q E B X T F N ND ret
  obtain r0 : ring ≠ 0 := by omega
  revert hr B X T F N ND ret r0
  revert w a n ring t1 t2 t3 env outer base g mean mg mb L' h₁ s Q E
  refine eps19 (by repeat' (first | refine @instNonemptyProd _ _ ?_ ?_ | infer_instance | exact neW | exact neS)) ?_
  intro hr B X T F N ND ret r0
  have ND9 := ND
  have ret2 := fun v nl h tk m a b c d => ret v nl h tk m c a b d
  (repeat' (first | (k_unfold; (try dsimp only)) | (k_end; wrow_close) | ((with_reducible show wpAny _ _ (eval (Expr.Name _ _) _) _ _ _); first | ((k_here; (with_reducible first | (refine nmL (by first | exact nf169.1 | exact nf169.2.1 | exact nf169.2.2.1) (by k_asm) (by k_dflt (exact Eq.refl (some _))) ?_) | (refine nmL (by first | exact nf176.1 | exact nf176.2.1 | exact nf176.2.2.1) (by k_asm) (by k_dflt (exact Eq.refl (some _))) ?_) | (refine nmL (by first | exact nf183.1 | exact nf183.2.1 | exact nf183.2.2.1 | exact nf183.2.2.2.1) (by k_asm) (by k_dflt (exact Eq.refl (some _))) ?_) | (refine nmK nf183.2.2.2.2.1 (gk_distance _) (by k_asm) (by k_asm) (by k_asm) ?_))))) | (first | (with_reducible refine ite_pos ?c9 ?_; (case c9 => first | with_reducible assumption | omega | (simp only [decide_eq_true_eq, decide_eq_false_iff_not]; omega))) | (with_reducible refine ite_neg ?c9 ?_; (case c9 => first | with_reducible assumption | omega | (simp only [decide_eq_true_eq, decide_eq_false_iff_not]; omega))) | (with_reducible refine ite_isFalse ?c9 ?_; (case c9 => with_reducible assumption))) | walk1 | (dsimp only; walk1) | (leave1; (try dsimp only)) | fail "no step"))
  all_goals (try dsimp only)
  all_goals (try k_unfold)
  all_goals (try dsimp only)
  all_goals (try k_unfold)
  all_goals (try dsimp only)
  all_goals (try k_unfold)
  all_goals (try dsimp only)
  all_goals (refine ret2 _ _ _ _ _ (by assumption) (by assumption) ⟨_, rfl, rfl⟩ ND)
inductive P_dist_sp (U : Int) (V : Int) (v : Value) (nl : List (Addr × Obj)) : Prop where
  | mk (t : _) (hh1 : v = .int (V - U) t) (hh2 : nl = []) : P_dist_sp U V v nl
theorem dist_sp (w : World) (U V ring : Int) (t1 t2 t3 : Tok) (hr : ring = 256 ∨ ring = 4294967296) (h0 : 0 ≤ V - U) (h1 : V - U < ring) :
    Sp w 800 4000 176 [.int (Int.fmod U ring) t1, .int (Int.fmod V ring) t2, .int ring t3] [] (P_dist_sp U V) := by
  refine Sp.enter (binds := [("a", .int (Int.fmod U ring) t1), ("b", .int (Int.fmod V ring) t2), ("ring", .int ring t3)]) (by k_is) (by k_is) (by decide) (fun s X => BindsTo.of_eq rfl) (locs rfl) ?_
  intro env outer base g mean mg mb L' h₁ s Q E B X T F N ND ret
  obtain r0 : ring ≠ 0 := by omega
  revert hr h0 h1 B X T F N ND ret r0
  revert w U V ring t1 t2 t3 env outer base g mean mg mb L' h₁ s Q E
  refine eps19 (by repeat' (first | refine @instNonemptyProd _ _ ?_ ?_ | infer_instance | exact neW | exact neS)) ?_
  intro hr h0 h1 B X T F N ND ret r0
  have ND9 := ND
  have ret2 := fun v nl h tk m a b c d => ret v nl h tk m c a b d
  (repeat' (first | (k_unfold; (try dsimp only)) | (k_end; wrow_close) | ((with_reducible show wpAny _ _ (eval (Expr.Name _ _) _) _ _ _); first | ((k_here; (with_reducible first | (refine nmL (by first | exact nf169.1 | exact nf169.2.1 | exact nf169.2.2.1) (by k_asm) (by k_dflt (exact Eq.refl (some _))) ?_) | (refine nmL (by first | exact nf176.1 | exact nf176.2.1 | exact nf176.2.2.1) (by k_asm) (by k_dflt (exact Eq.refl (some _))) ?_) | (refine nmL (by first | exact nf183.1 | exact nf183.2.1 | exact nf183.2.2.1 | exact nf183.2.2.2.1) (by k_asm) (by k_dflt (exact Eq.refl (some _))) ?_) | (refine nmK nf183.2.2.2.2.1 (gk_distance _) (by k_asm) (by k_asm) (by k_asm) ?_))))) | (first | (with_reducible refine ite_pos ?c9 ?_; (case c9 => first | with_reducible assumption | omega | (simp only [decide_eq_true_eq, decide_eq_false_iff_not]; omega))) | (with_reducible refine ite_neg ?c9 ?_; (case c9 => first | with_reducible assumption | omega | (simp only [decide_eq_true_eq, decide_eq_false_iff_not]; omega))) | (with_reducible refine ite_isFalse ?c9 ?_; (case c9 => with_reducible assumption))) | walk1 | (dsimp only; walk1) | (leave1; (try dsimp only)) | fail "no step"))
  all_goals (try dsimp only)
  all_goals (try k_unfold)
  all_goals (try dsimp only)
  all_goals (try k_unfold)
  all_goals (try dsimp only)
  all_goals (try k_unfold)
  all_goals (try dsimp only)
  all_goals (rw [fm_dist hr h0 h1])
  all_goals (refine ret2 _ _ _ _ _ (by assumption) (by assumption) ⟨_, rfl, rfl⟩ ND)
theorem beforeT_sp (w : World) (U V ring : Int) (t1 t2 t3 : Tok) (hr : ring = 256 ∨ ring = 4294967296) (h0 : U < V) (h1 : 2 * (V - U) < ring) :
    Sp w 780 3900 183 [.int (Int.fmod U ring) t1, .int (Int.fmod V ring) t2, .int ring t3] [] (fun v nl => v = .bool true ∧ nl = []) := by
  have e := fm_dist (U := U) (V := V) hr (by omega) (by omega)
  refine Sp.enter (binds := [("a", .int (Int.fmod U ring) t1), ("b", .int (Int.fmod V ring) t2), ("ring", .int ring t3)]) (by k_is) (by k_is) (by decide) (fun s X => BindsTo.of_eq rfl) (locs rfl) ?_
  intro env outer base g mean mg mb L' h₁ s Q E B X T F N ND ret
  obtain r0 : ring ≠ 0 := by omega
  revert hr h0 h1 e B X T F N ND ret r0
  revert w U V ring t1 t2 t3 env outer base g mean mg mb L' h₁ s Q E
  refine eps19 (by repeat' (first | refine @instNonemptyProd _ _ ?_ ?_ | infer_instance | exact neW | exact neS)) ?_
  intro hr h0 h1 e B X T F N ND ret r0
  have ND9 := ND
  have ret2 := fun v nl h tk m a b c d => ret v nl h tk m c a b d
  (repeat' (first | (k_unfold; (try dsimp only)) | (k_end; wrow_close) | ((with_reducible show wpAny _ _ (eval (Expr.Name _ _) _) _ _ _); first | ((k_here; (with_reducible first | (refine nmL (by first | exact nf169.1 | exact nf169.2.1 | exact nf169.2.2.1) (by k_asm) (by k_dflt (exact Eq.refl (some _))) ?_) | (refine nmL (by first | exact nf176.1 | exact nf176.2.1 | exact nf176.2.2.1) (by k_asm) (by k_dflt (exact Eq.refl (some _))) ?_) | (refine nmL (by first | exact nf183.1 | exact nf183.2.1 | exact nf183.2.2.1 | exact nf183.2.2.2.1) (by k_asm) (by k_dflt (exact Eq.refl (some _))) ?_) | (refine nmK nf183.2.2.2.2.1 (gk_distance _) (by k_asm) (by k_asm) (by k_asm) ?_))))) | (first | (with_reducible refine ite_pos ?c9 ?_; (case c9 => first | with_reducible assumption | omega | (simp only [decide_eq_true_eq, decide_eq_false_iff_not]; omega))) | (with_reducible refine ite_neg ?c9 ?_; (case c9 => first | with_reducible assumption | omega | (simp only [decide_eq_true_eq, decide_eq_false_iff_not]; omega))) | (with_reducible refine ite_isFalse ?c9 ?_; (case c9 => with_reducible assumption))) | walk1 | (dsimp only; walk1) | (leave1; (try dsimp only)) | fail "no step"))
  all_goals (try dsimp only)
  all_goals (try k_unfold)
  all_goals (try dsimp only)
  all_goals (try k_unfold)
  all_goals (try dsimp only)
  all_goals (try k_unfold)
  all_goals (try dsimp only)
  all_goals (try (dsimp only))
  all_goals (with_reducible rename Fr _ _ _ _ => hf)
  all_goals (with_reducible rename News _ _ _ _ => hh)
  all_goals first
    | (exfalso; simp only [e] at *; (try split at *) <;> omega)
    | (refine ret2 _ _ _ _ _ hf hh ⟨congrArg Value.bool (decide_eq_true (by rw [e]; (try split) <;> omega)), rfl⟩ ND)
theorem beforeF_sp (w : World) (U V ring : Int) (t1 t2 t3 : Tok) (hr : ring = 256 ∨ ring = 4294967296) (h0 : V ≤ U) (h1 : 2 * (U - V) < ring) :
    Sp w 780 3900 183 [.int (Int.fmod U ring) t1, .int (Int.fmod V ring) t2, .int ring t3] [] (fun v nl => v = .bool false ∧ nl = []) := by
  have e : Int.fmod (Int.fmod V ring - Int.fmod U ring) ring = if V = U then 0 else ring + V - U := by
    split
    · rename_i q; rw [fm_dist hr (by omega) (by omega)]; omega
    · exact fm_distN hr (by omega) (by omega)
  refine Sp.enter (binds := [("a", .int (Int.fmod U ring) t1), ("b", .int (Int.fmod V ring) t2), ("ring", .int ring t3)]) (by k_is) (by k_is) (by decide) (fun s X => BindsTo.of_eq rfl) (locs rfl) ?_
  intro env outer base g mean mg mb L' h₁ s Q E B X T F N ND ret
  obtain r0 : ring ≠ 0 := by omega
  revert hr h0 h1 e B X T F N ND ret r0
  revert w U V ring t1 t2 t3 env outer base g mean mg mb L' h₁ s Q E
  refine eps19 (by repeat' (first | refine @instNonemptyProd _ _ ?_ ?_ | infer_instance | exact neW | exact neS)) ?_
  intro hr h0 h1 e B X T F N ND ret r0
  have ND9 := ND
  have ret2 := fun v nl h tk m a b c d => ret v nl h tk m c a b d
  (repeat' (first | (k_unfold; (try dsimp only)) | (k_end; wrow_close) | ((with_reducible show wpAny _ _ (eval (Expr.Name _ _) _) _ _ _); first | ((k_here; (with_reducible first | (refine nmL (by first | exact nf169.1 | exact nf169.2.1 | exact nf169.2.2.1) (by k_asm) (by k_dflt (exact Eq.refl (some _))) ?_) | (refine nmL (by first | exact nf176.1 | exact nf176.2.1 | exact nf176.2.2.1) (by k_asm) (by k_dflt (exact Eq.refl (some _))) ?_) | (refine nmL (by first | exact nf183.1 | exact nf183.2.1 | exact nf183.2.2.1 | exact nf183.2.2.2.1) (by k_asm) (by k_dflt (exact Eq.refl (some _))) ?_) | (refine nmK nf183.2.2.2.2.1 (gk_distance _) (by k_asm) (by k_asm) (by k_asm) ?_))))) | (first | (with_reducible refine ite_pos ?c9 ?_; (case c9 => first | with_reducible assumption | omega | (simp only [decide_eq_true_eq, decide_eq_false_iff_not]; omega))) | (with_reducible refine ite_neg ?c9 ?_; (case c9 => first | with_reducible assumption | omega | (simp only [decide_eq_true_eq, decide_eq_false_iff_not]; omega))) | (with_reducible refine ite_isFalse ?c9 ?_; (case c9 => with_reducible assumption))) | walk1 | (dsimp only; walk1) | (leave1; (try dsimp only)) | fail "no step"))
  all_goals (try dsimp only)
  all_goals (try k_unfold)
  all_goals (try dsimp only)
  all_goals (try k_unfold)
  all_goals (try dsimp only)
  all_goals (try k_unfold)
  all_goals (try dsimp only)
  all_goals (try (dsimp only))
  all_goals (with_reducible rename Fr _ _ _ _ => hf)
  all_goals (with_reducible rename News _ _ _ _ => hh)
  all_goals first
    | (exfalso; simp only [e] at *; (try split at *) <;> omega)
    | (refine ret2 _ _ _ _ _ hf hh ⟨congrArg Value.bool (decide_eq_false (by rw [e]; (try split) <;> omega)), rfl⟩ ND)
end Mine
end PartR1
section PartR2
open PySem PySem.W PySem.Calls PyProof.Rows PyProof.V PySem.Spec
set_option Elab.async false
set_option maxRecDepth 100000
set_option maxHeartbeats 4000000
namespace Mine
theorem clip_of {n : Nat} {k : Int} (h : 0 ≤ k) : clipAt n k = min k.toNat n := by
  obtain ⟨j, rfl⟩ : ∃ j : Nat, k = j := ⟨k.toNat, by omega⟩
  rw [clipAt_nat]; rfl
theorem picked_all {b : Array UInt8} {k : Int} (h : (b.size : Int) ≤ k) : KBy.picked b none (some k) = b := by
  rw [KBc.picked_eq]
  simp only [Option.elim]
  rw [clip_of (by omega), Nat.min_eq_right (by omega), List.drop_zero, Nat.sub_zero, List.take_of_length_le (by simp), Array.toArray_toList]
theorem picked_from0 {b : Array UInt8} : KBy.picked b (some 0) none = b := by
  rw [KBc.picked_eq]
  simp only [Option.elim]
  rw [clip_of (Int.le_refl _)]
  show ((b.toList.drop (min 0 b.size)).take (b.size - min 0 b.size)).toArray = b
  rw [Nat.zero_min, List.drop_zero, Nat.sub_zero, List.take_of_length_le (by simp), Array.toArray_toList]
theorem picked_to_size {b : Array UInt8} {k : Int} (h0 : 0 ≤ k) (h : k ≤ b.size) : ((KBy.picked b none (some k)).size : Int) = k := by
  rw [KBc.picked_eq, List.size_toArray, List.length_take]
  simp only [Option.elim]
  rw [clip_of h0, List.drop_zero, Array.length_toList]
  obtain ⟨n, rfl⟩ := Int.eq_ofNat_of_zero_le h0
  have h' := Int.ofNat_le.mp h
  rw [Int.toNat_natCast, Nat.sub_zero, Nat.min_eq_left h', Nat.min_eq_left h']
theorem picked_from_size {b : Array UInt8} {k : Int} (h0 : 0 ≤ k) (h : k ≤ b.size) : ((KBy.picked b (some k) none).size : Int) = b.size - k := by
  rw [KBc.picked_eq, List.size_toArray, List.length_take, List.length_drop, Array.length_toList]
  simp only [Option.elim]
  rw [clip_of h0]
  obtain ⟨n, rfl⟩ := Int.eq_ofNat_of_zero_le h0
  have h' := Int.ofNat_le.mp h
  rw [Int.toNat_natCast, Nat.min_self, Nat.min_eq_left h', Int.ofNat_sub h']
section
variable {prog : Program} {w : World} {A : Around} {E : Value → Shared → Prop} {s : Shared} {value slice : PySem.Expr} {b : Array UInt8} {t : Tok} {h₀ : Heap} {L : Addr} {m : PySem.Str → Option Value} {news : List (Addr × Obj)} {l u : Value} {lo hi : Option Int} {Q : Value → Shared → Prop}
theorem slice_by (hF : Fr h₀ L s.heap m) (hN : News h₀ L s.heap news) (hl : IsPart l lo) (hu : IsPart u hi) (hz : b.size ≤ 16777216) (e : KBy.picked b lo hi = b)
    (h : ∀ h' t' k, Fr h₀ L h' m → News h₀ L h' news → Q (.bytes b t') { s with heap := h', toks := k })
    (hs : subscripted slice false (.bytes b t) (.ref s.heap.objs.size) = operate [.ref s.heap.objs.size, .bytes b t] (getItem (.bytes b t) (.ref s.heap.objs.size)) := by with_unfolding_all rfl)
    (ht : ∀ r, letTemporaryGo value (.bytes b t) r = pure () := by intro _; with_unfolding_all rfl) :
    wpAny (model prog w) A (subscriptTail value slice (.bytes b t) (.ref s.heap.objs.size)) Q E { s with heap := s.heap.push { cls := .type "slice", data := .fields #[l, u, .none] } } := by
  refine KBc.slice_K hF hN rfl hl hu (by rw [KBw.ints_length]; exact hz) (fun h' t' k F N _ => ?_) hs ht
  rw [e]; exact h h' t' k F N
end
end Mine
end PartR2
section PartC5
open PySem PySem.W PySem.Calls PyProof.Rows
set_option Elab.async false
set_option maxRecDepth 100000
set_option maxHeartbeats 4000000
set_option rowWalk.seconds 0
set_option pp.maxSteps 6000
namespace Mine

structure WhZ where
  k1 : Tok
  k2 : Tok
  k3 : Tok
  k4 : Tok
  k5 : Tok
  k6 : Tok
  t1 : Tok
  t2 : Tok
  gv : Int
theorem neWhZ : Nonempty WhZ := ⟨by constructor <;> exact default⟩
abbrev wheelO (w : World) (z : WhZ) (sl lt en : Addr) : Obj :=
  dictO [de w "size" z.k1 (.int 16 z.t1), de w "slots" z.k2 (.ref sl), de w "late" z.k3 (.ref lt), de w "entries" z.k4 (.ref en), de w "reached" z.k5 .none, de w "given" z.k6 (.int z.gv z.t2)] 6
structure SlZ where
  q0 : Addr
  q1 : Addr
  q3 : Addr
  q4 : Addr
  q5 : Addr
  q6 : Addr
  q7 : Addr
  q8 : Addr
  q9 : Addr
  q10 : Addr
  q11 : Addr
  q13 : Addr
  q14 : Addr
  q15 : Addr
  n : Nat
theorem neSlZ : Nonempty SlZ := ⟨by constructor <;> exact default⟩
abbrev slotsO (z : SlZ) (s2 s12 : Addr) : Obj :=
  listO [.ref z.q0, .ref z.q1, .ref s2, .ref z.q3, .ref z.q4, .ref z.q5, .ref z.q6, .ref z.q7, .ref z.q8, .ref z.q9, .ref z.q10, .ref z.q11, .ref s12, .ref z.q13, .ref z.q14, .ref z.q15] z.n
inductive WheD (w : World) (sl : Addr) (lt : Addr) (en : Addr) (o : Obj) : Prop where
  | mk (z : WhZ) (hh1 : o = wheelO w z sl lt en) : WheD w sl lt en o
theorem WheD.of {w : World} {sl : Addr} {lt : Addr} {en : Addr} {o : Obj} {k1 : Tok} {k2 : Tok} {k3 : Tok} {k4 : Tok} {k5 : Tok} {k6 : Tok} {t1 : Tok} {t2 : Tok} {gv : Int} (e : o =  dictO [de w "size" k1 (.int 16 t1), de w "slots" k2 (.ref sl), de w "late" k3 (.ref lt), de w "entries" k4 (.ref en), de w "reached" k5 .none, de w "given" k6 (.int gv t2)] 6) : WheD w sl lt en o :=
  ⟨⟨k1, k2, k3, k4, k5, k6, t1, t2, gv⟩, e⟩
inductive SlD (s2 : Addr) (s12 : Addr) (o : Obj) : Prop where
  | mk (z : SlZ) (hh1 : o = slotsO z s2 s12) : SlD s2 s12 o
theorem SlD.of {s2 : Addr} {s12 : Addr} {o : Obj} {q0 : Addr} {q1 : Addr} {q3 : Addr} {q4 : Addr} {q5 : Addr} {q6 : Addr} {q7 : Addr} {q8 : Addr} {q9 : Addr} {q10 : Addr} {q11 : Addr} {q13 : Addr} {q14 : Addr} {q15 : Addr} {n : Nat} (e : o =  listO [.ref q0, .ref q1, .ref s2, .ref q3, .ref q4, .ref q5, .ref q6, .ref q7, .ref q8, .ref q9, .ref q10, .ref q11, .ref s12, .ref q13, .ref q14, .ref q15] n) : SlD s2 s12 o :=
  ⟨⟨q0, q1, q3, q4, q5, q6, q7, q8, q9, q10, q11, q13, q14, q15, n⟩, e⟩
inductive LI0 (o : Obj) : Prop where
  | mk (n : _) (hh1 : o = listO [] n) : LI0 o
inductive LI1 (o : Obj) : Prop where
  | mk (t : _) (n : _) (hh1 : o = listO [.int 1 t] n) : LI1 o
inductive LI3 (o : Obj) : Prop where
  | mk (t : _) (n : _) (hh1 : o = listO [.int 3 t] n) : LI3 o
inductive TpD (k : Int) (o : Obj) : Prop where
  | mk (t : _) (g : _) (u : _) (n : _) (hh1 : o = tupO [.int k t, .int g u] n) : TpD k o
inductive WE (w : World) (x : Addr) (d : Addr) (sl : Addr) (s2 : Addr) (s12 : Addr) (lt : Addr) (en : Addr) (a3 : Addr) (a1 : Addr) (oW : Obj) (oS : Obj) (o2 : Obj) (o12 : Obj) (oL : Obj) (oE : Obj) (oA3 : Obj) (oA1 : Obj) : Prop where
  | mk (hh1 : WheD w sl lt en oW) (hh2 : SlD s2 s12 oS) (hh3 : LI0 o2) (hh4 : LI0 o12) (hh5 : LI0 oL) (hh6 : oE.IsDictOf (PySem.intKind pp w) []) (hh7 : @Ne Nat en 1) : WE w x d sl s2 s12 lt en a3 a1 oW oS o2 o12 oL oE oA3 oA1
inductive WT (w : World) (x : Addr) (d : Addr) (sl : Addr) (s2 : Addr) (s12 : Addr) (lt : Addr) (en : Addr) (a3 : Addr) (a1 : Addr) (oW : Obj) (oS : Obj) (o2 : Obj) (o12 : Obj) (oL : Obj) (oE : Obj) (oA3 : Obj) (oA1 : Obj) : Prop where
  | mk (hh1 : WheD w sl lt en oW) (hh2 : SlD s2 s12 oS) (hh3 : LI3 o2) (hh4 : LI0 o12) (hh5 : LI0 oL) (hh6 : oE.IsDictOf (PySem.intKind pp w) [(3, .ref a3)]) (hh7 : @Ne Nat en 1) (hh8 : TpD 50 oA3) : WT w x d sl s2 s12 lt en a3 a1 oW oS o2 o12 oL oE oA3 oA1
inductive WTO (w : World) (x : Addr) (d : Addr) (sl : Addr) (s2 : Addr) (s12 : Addr) (lt : Addr) (en : Addr) (a3 : Addr) (a1 : Addr) (oW : Obj) (oS : Obj) (o2 : Obj) (o12 : Obj) (oL : Obj) (oE : Obj) (oA3 : Obj) (oA1 : Obj) : Prop where
  | mk (hh1 : WheD w sl lt en oW) (hh2 : SlD s2 s12 oS) (hh3 : LI3 o2) (hh4 : LI1 o12) (hh5 : LI0 oL) (hh6 : oE.IsDictOf (PySem.intKind pp w) [(3, .ref a3), (1, .ref a1)]) (hh7 : @Ne Nat en 1) (hh8 : TpD 50 oA3) (hh9 : TpD 60 oA1) : WTO w x d sl s2 s12 lt en a3 a1 oW oS o2 o12 oL oE oA3 oA1
inductive WO (w : World) (x : Addr) (d : Addr) (sl : Addr) (s2 : Addr) (s12 : Addr) (lt : Addr) (en : Addr) (a3 : Addr) (a1 : Addr) (oW : Obj) (oS : Obj) (o2 : Obj) (o12 : Obj) (oL : Obj) (oE : Obj) (oA3 : Obj) (oA1 : Obj) : Prop where
  | mk (hh1 : WheD w sl lt en oW) (hh2 : SlD s2 s12 oS) (hh3 : LI0 o2) (hh4 : LI1 o12) (hh5 : LI0 oL) (hh6 : oE.IsDictOf (PySem.intKind pp w) [(1, .ref a1)]) (hh7 : @Ne Nat en 1) (hh8 : TpD 60 oA1) : WO w x d sl s2 s12 lt en a3 a1 oW oS o2 o12 oL oE oA3 oA1
inductive WOT (w : World) (x : Addr) (d : Addr) (sl : Addr) (s2 : Addr) (s12 : Addr) (lt : Addr) (en : Addr) (a3 : Addr) (a1 : Addr) (oW : Obj) (oS : Obj) (o2 : Obj) (o12 : Obj) (oL : Obj) (oE : Obj) (oA3 : Obj) (oA1 : Obj) : Prop where
  | mk (hh1 : WheD w sl lt en oW) (hh2 : SlD s2 s12 oS) (hh3 : LI3 o2) (hh4 : LI1 o12) (hh5 : LI0 oL) (hh6 : oE.IsDictOf (PySem.intKind pp w) [(1, .ref a1), (3, .ref a3)]) (hh7 : @Ne Nat en 1) (hh8 : TpD 60 oA1) (hh9 : TpD 50 oA3) : WOT w x d sl s2 s12 lt en a3 a1 oW oS o2 o12 oL oE oA3 oA1
inductive XE (w : World) (x d sl s2 s12 lt en : Addr) (oS : Obj) (v : Value) (nl : List (Addr × Obj)) : Prop where
  | mk (a3 a1 : Addr) (oA3 : Obj) (oA1 : Obj) (z : WhZ) (n2 : Nat) (n12 nl9 : Nat) (oE : Obj) (h6 : oE.IsDictOf (PySem.intKind pp w) []) (e : nl = [(x, instObj 783 d), (d, wheelO w z sl lt en), (sl, oS), (s2, listO [] n2), (s12, listO [] n12), (lt, listO [] nl9), (en, oE), (a3, oA3), (a1, oA1)]) : XE w x d sl s2 s12 lt en oS v nl
inductive XT (w : World) (x d sl s2 s12 lt en : Addr) (oS : Obj) (v : Value) (nl : List (Addr × Obj)) : Prop where
  | mk (a3 a1 : Addr) (oA1 : Obj) (z : WhZ) (t20 : Tok) (n2 : Nat) (n12 nl9 : Nat) (oE : Obj) (tA3 : Tok) (gA3 : Int) (uA3 : Tok) (nA3 : Nat) (h6 : oE.IsDictOf (PySem.intKind pp w) [(3, .ref a3)]) (e : nl = [(x, instObj 783 d), (d, wheelO w z sl lt en), (sl, oS), (s2, listO [.int 3 t20] n2), (s12, listO [] n12), (lt, listO [] nl9), (en, oE), (a3, tupO [.int 50 tA3, .int gA3 uA3] nA3), (a1, oA1)]) : XT w x d sl s2 s12 lt en oS v nl
inductive XO (w : World) (x d sl s2 s12 lt en : Addr) (oS : Obj) (v : Value) (nl : List (Addr × Obj)) : Prop where
  | mk (a3 a1 : Addr) (oA3 : Obj) (z : WhZ) (n2 : Nat) (t120 : Tok) (n12 nl9 : Nat) (oE : Obj) (tA1 : Tok) (gA1 : Int) (uA1 : Tok) (nA1 : Nat) (h6 : oE.IsDictOf (PySem.intKind pp w) [(1, .ref a1)]) (e : nl = [(x, instObj 783 d), (d, wheelO w z sl lt en), (sl, oS), (s2, listO [] n2), (s12, listO [.int 1 t120] n12), (lt, listO [] nl9), (en, oE), (a3, oA3), (a1, tupO [.int 60 tA1, .int gA1 uA1] nA1)]) : XO w x d sl s2 s12 lt en oS v nl
end Mine
end PartC5
section PartC5d
theorem Mine.flush8 : True := by first | (w_top off; walk1) | trivial
open PySem PySem.W PySem.Calls PyProof.Rows
set_option Elab.async false
set_option maxRecDepth 100000
set_option maxHeartbeats 4000000
set_option rowWalk.seconds 0
set_option pp.maxSteps 6000
namespace Mine
theorem cancelE3 (w : World) (x d sl s2 s12 lt en a3 a1 : Addr) (oW oS o2 o12 oL oE oA3 oA1 : Obj) (h : WE w x d sl s2 s12 lt en a3 a1 oW oS o2 o12 oL oE oA3 oA1) (t3 : Tok) :
    Sp w 880 4800 754 [.ref x, .int 3 t3] [(x, instObj 783 d), (d, oW), (sl, oS), (s2, o2), (s12, o12), (lt, oL), (en, oE), (a3, oA3), (a1, oA1)] (XE w x d sl s2 s12 lt en oS) := by
  obtain ⟨h0, h1, h2, h3, h4, h5, h6⟩ := h
  obtain ⟨z, rfl⟩ := h0
  obtain ⟨n2, rfl⟩ := h2
  obtain ⟨n12, rfl⟩ := h3
  obtain ⟨nl, rfl⟩ := h4
  have lo : (en == sysModules) = false := by simpa [sysModules] using h6
  refine Sp.enter (binds := [("self", .ref x), ("key", .int 3 t3)]) (by k_is) (by k_is) (by decide) (fun s X => BindsTo.of_eq rfl) (locs rfl) ?_
  intro env outer base g mean mg mb L' h₁ s Q E B X T F N ND ret
  obtain ⟨n_x_d, n_x_sl, n_x_s2, n_x_s12, n_x_lt, n_x_en, n_x_a3, n_x_a1, n_d_sl, n_d_s2, n_d_s12, n_d_lt, n_d_en, n_d_a3, n_d_a1, n_sl_s2, n_sl_s12, n_sl_lt, n_sl_en, n_sl_a3, n_sl_a1, n_s2_s12, n_s2_lt, n_s2_en, n_s2_a3, n_s2_a1, n_s12_lt, n_s12_en, n_s12_a3, n_s12_a1, n_lt_en, n_lt_a3, n_lt_a1, n_en_a3, n_en_a1, n_a3_a1⟩ := nn9 ND
  revert h1 h5 h6 lo B X T F N ND ret n_x_d n_x_sl n_x_s2 n_x_s12 n_x_lt n_x_en n_x_a3 n_x_a1 n_d_sl n_d_s2 n_d_s12 n_d_lt n_d_en n_d_a3 n_d_a1 n_sl_s2 n_sl_s12 n_sl_lt n_sl_en n_sl_a3 n_sl_a1 n_s2_s12 n_s2_lt n_s2_en n_s2_a3 n_s2_a1 n_s12_lt n_s12_en n_s12_a3 n_s12_a1 n_lt_en n_lt_a3 n_lt_a1 n_en_a3 n_en_a1 n_a3_a1
  revert w x d sl s2 s12 lt en a3 a1 oS oE oA3 oA1 t3 z n2 n12 nl env outer base g mean mg mb L' h₁ s Q E
  (iterate 1 (refine dum ?_))
  refine eps32 (by repeat' (first | refine @instNonemptyProd _ _ ?_ ?_ | infer_instance | exact neW | exact neS | exact neWhZ)) ?_
  intro h1 h5 h6 lo B X T F N ND ret n_x_d n_x_sl n_x_s2 n_x_s12 n_x_lt n_x_en n_x_a3 n_x_a1 n_d_sl n_d_s2 n_d_s12 n_d_lt n_d_en n_d_a3 n_d_a1 n_sl_s2 n_sl_s12 n_sl_lt n_sl_en n_sl_a3 n_sl_a1 n_s2_s12 n_s2_lt n_s2_en n_s2_a3 n_s2_a1 n_s12_lt n_s12_en n_s12_a3 n_s12_a1 n_lt_en n_lt_a3 n_lt_a1 n_en_a3 n_en_a1 n_a3_a1
  have ND9 := ND
  have ret2 := fun v nl h tk m a b c d => ret v nl h tk m c a b d
  (repeat' (first | (k_unfold; (try dsimp only)) | (k_end; wrow_close) | ((with_reducible show wpAny _ _ (eval (Expr.Name _ _) _) _ _ _); first | ((k_here; (with_reducible first | (refine nmL (by first | exact nf754.1 | exact nf754.2.1 | exact nf754.2.2.1 | exact nf754.2.2.2.1 | exact nf754.2.2.2.2.1) (by k_asm) (by k_dflt (exact Eq.refl (some _))) ?_) | (refine nmL (by first | exact nf761.1 | exact nf761.2.1) (by k_asm) (by k_dflt (exact Eq.refl (some _))) ?_))))) | walk1 | (dsimp only; walk1) | (leave1; (try dsimp only)) | fail "no step"))
  all_goals (try dsimp only)
  all_goals (try k_unfold)
  all_goals (try dsimp only)
  all_goals (try k_unfold)
  all_goals (try dsimp only)
  all_goals (try k_unfold)
  all_goals (try dsimp only)
  all_goals (try (dsimp only))
  all_goals (with_reducible rename Fr _ _ _ _ => hf)
  all_goals (with_reducible rename News _ _ _ _ => hh)
  all_goals (refine ret2 _ _ _ _ _ hf (news_pick hh (by ktr_rel)) ⟨_, _, _, _, _, _, _, _, _, (by assumption), rfl⟩ ?_)
  all_goals k_allIn
theorem cancelO3 (w : World) (x d sl s2 s12 lt en a3 a1 : Addr) (oW oS o2 o12 oL oE oA3 oA1 : Obj) (h : WO w x d sl s2 s12 lt en a3 a1 oW oS o2 o12 oL oE oA3 oA1) (t3 : Tok) :
    Sp w 880 4800 754 [.ref x, .int 3 t3] [(x, instObj 783 d), (d, oW), (sl, oS), (s2, o2), (s12, o12), (lt, oL), (en, oE), (a3, oA3), (a1, oA1)] (XO w x d sl s2 s12 lt en oS) := by
  obtain ⟨h0, h1, h2, h3, h4, h5, h6, h7⟩ := h
  obtain ⟨z, rfl⟩ := h0
  obtain ⟨n2, rfl⟩ := h2
  obtain ⟨t120, n12, rfl⟩ := h3
  obtain ⟨nl, rfl⟩ := h4
  have lo : (en == sysModules) = false := by simpa [sysModules] using h6
  obtain ⟨tA1, gA1, uA1, nA1, rfl⟩ := h7
  refine Sp.enter (binds := [("self", .ref x), ("key", .int 3 t3)]) (by k_is) (by k_is) (by decide) (fun s X => BindsTo.of_eq rfl) (locs rfl) ?_
  intro env outer base g mean mg mb L' h₁ s Q E B X T F N ND ret
  obtain ⟨n_x_d, n_x_sl, n_x_s2, n_x_s12, n_x_lt, n_x_en, n_x_a3, n_x_a1, n_d_sl, n_d_s2, n_d_s12, n_d_lt, n_d_en, n_d_a3, n_d_a1, n_sl_s2, n_sl_s12, n_sl_lt, n_sl_en, n_sl_a3, n_sl_a1, n_s2_s12, n_s2_lt, n_s2_en, n_s2_a3, n_s2_a1, n_s12_lt, n_s12_en, n_s12_a3, n_s12_a1, n_lt_en, n_lt_a3, n_lt_a1, n_en_a3, n_en_a1, n_a3_a1⟩ := nn9 ND
  revert h1 h5 h6 lo B X T F N ND ret n_x_d n_x_sl n_x_s2 n_x_s12 n_x_lt n_x_en n_x_a3 n_x_a1 n_d_sl n_d_s2 n_d_s12 n_d_lt n_d_en n_d_a3 n_d_a1 n_sl_s2 n_sl_s12 n_sl_lt n_sl_en n_sl_a3 n_sl_a1 n_s2_s12 n_s2_lt n_s2_en n_s2_a3 n_s2_a1 n_s12_lt n_s12_en n_s12_a3 n_s12_a1 n_lt_en n_lt_a3 n_lt_a1 n_en_a3 n_en_a1 n_a3_a1
  revert w x d sl s2 s12 lt en a3 a1 oS oE oA3 t3 z n2 t120 n12 nl tA1 gA1 uA1 nA1 env outer base g mean mg mb L' h₁ s Q E
  (iterate 2 (refine dum ?_))
  refine eps37 (by repeat' (first | refine @instNonemptyProd _ _ ?_ ?_ | infer_instance | exact neW | exact neS | exact neWhZ)) ?_
  intro h1 h5 h6 lo B X T F N ND ret n_x_d n_x_sl n_x_s2 n_x_s12 n_x_lt n_x_en n_x_a3 n_x_a1 n_d_sl n_d_s2 n_d_s12 n_d_lt n_d_en n_d_a3 n_d_a1 n_sl_s2 n_sl_s12 n_sl_lt n_sl_en n_sl_a3 n_sl_a1 n_s2_s12 n_s2_lt n_s2_en n_s2_a3 n_s2_a1 n_s12_lt n_s12_en n_s12_a3 n_s12_a1 n_lt_en n_lt_a3 n_lt_a1 n_en_a3 n_en_a1 n_a3_a1
  have ND9 := ND
  have ret2 := fun v nl h tk m a b c d => ret v nl h tk m c a b d
  (repeat' (first | (k_unfold; (try dsimp only)) | (k_end; wrow_close) | ((with_reducible show wpAny _ _ (eval (Expr.Name _ _) _) _ _ _); first | ((k_here; (with_reducible first | (refine nmL (by first | exact nf754.1 | exact nf754.2.1 | exact nf754.2.2.1 | exact nf754.2.2.2.1 | exact nf754.2.2.2.2.1) (by k_asm) (by k_dflt (exact Eq.refl (some _))) ?_) | (refine nmL (by first | exact nf761.1 | exact nf761.2.1) (by k_asm) (by k_dflt (exact Eq.refl (some _))) ?_))))) | walk1 | (dsimp only; walk1) | (leave1; (try dsimp only)) | fail "no step"))
  all_goals (try dsimp only)
  all_goals (try k_unfold)
  all_goals (try dsimp only)
  all_goals (try k_unfold)
  all_goals (try dsimp only)
  all_goals (try k_unfold)
  all_goals (try dsimp only)
  all_goals (try (dsimp only))
  all_goals (with_reducible rename Fr _ _ _ _ => hf)
  all_goals (with_reducible rename News _ _ _ _ => hh)
  all_goals (refine ret2 _ _ _ _ _ hf (news_pick hh (by ktr_rel)) ⟨_, _, _, _, _, _, _, _, _, _, _, _, _, (by assumption), rfl⟩ ?_)
  all_goals k_allIn
theorem cancelT1 (w : World) (x d sl s2 s12 lt en a3 a1 : Addr) (oW oS o2 o12 oL oE oA3 oA1 : Obj) (h : WT w x d sl s2 s12 lt en a3 a1 oW oS o2 o12 oL oE oA3 oA1) (t3 : Tok) :
    Sp w 880 4800 754 [.ref x, .int 1 t3] [(x, instObj 783 d), (d, oW), (sl, oS), (s2, o2), (s12, o12), (lt, oL), (en, oE), (a3, oA3), (a1, oA1)] (XT w x d sl s2 s12 lt en oS) := by
  obtain ⟨h0, h1, h2, h3, h4, h5, h6, h7⟩ := h
  obtain ⟨z, rfl⟩ := h0
  obtain ⟨t20, n2, rfl⟩ := h2
  obtain ⟨n12, rfl⟩ := h3
  obtain ⟨nl, rfl⟩ := h4
  have lo : (en == sysModules) = false := by simpa [sysModules] using h6
  obtain ⟨tA3, gA3, uA3, nA3, rfl⟩ := h7
  refine Sp.enter (binds := [("self", .ref x), ("key", .int 1 t3)]) (by k_is) (by k_is) (by decide) (fun s X => BindsTo.of_eq rfl) (locs rfl) ?_
  intro env outer base g mean mg mb L' h₁ s Q E B X T F N ND ret
  obtain ⟨n_x_d, n_x_sl, n_x_s2, n_x_s12, n_x_lt, n_x_en, n_x_a3, n_x_a1, n_d_sl, n_d_s2, n_d_s12, n_d_lt, n_d_en, n_d_a3, n_d_a1, n_sl_s2, n_sl_s12, n_sl_lt, n_sl_en, n_sl_a3, n_sl_a1, n_s2_s12, n_s2_lt, n_s2_en, n_s2_a3, n_s2_a1, n_s12_lt, n_s12_en, n_s12_a3, n_s12_a1, n_lt_en, n_lt_a3, n_lt_a1, n_en_a3, n_en_a1, n_a3_a1⟩ := nn9 ND
  revert h1 h5 h6 lo B X T F N ND ret n_x_d n_x_sl n_x_s2 n_x_s12 n_x_lt n_x_en n_x_a3 n_x_a1 n_d_sl n_d_s2 n_d_s12 n_d_lt n_d_en n_d_a3 n_d_a1 n_sl_s2 n_sl_s12 n_sl_lt n_sl_en n_sl_a3 n_sl_a1 n_s2_s12 n_s2_lt n_s2_en n_s2_a3 n_s2_a1 n_s12_lt n_s12_en n_s12_a3 n_s12_a1 n_lt_en n_lt_a3 n_lt_a1 n_en_a3 n_en_a1 n_a3_a1
  revert w x d sl s2 s12 lt en a3 a1 oS oE oA1 t3 z t20 n2 n12 nl tA3 gA3 uA3 nA3 env outer base g mean mg mb L' h₁ s Q E
  (iterate 2 (refine dum ?_))
  refine eps37 (by repeat' (first | refine @instNonemptyProd _ _ ?_ ?_ | infer_instance | exact neW | exact neS | exact neWhZ)) ?_
  intro h1 h5 h6 lo B X T F N ND ret n_x_d n_x_sl n_x_s2 n_x_s12 n_x_lt n_x_en n_x_a3 n_x_a1 n_d_sl n_d_s2 n_d_s12 n_d_lt n_d_en n_d_a3 n_d_a1 n_sl_s2 n_sl_s12 n_sl_lt n_sl_en n_sl_a3 n_sl_a1 n_s2_s12 n_s2_lt n_s2_en n_s2_a3 n_s2_a1 n_s12_lt n_s12_en n_s12_a3 n_s12_a1 n_lt_en n_lt_a3 n_lt_a1 n_en_a3 n_en_a1 n_a3_a1
  have ND9 := ND
  have ret2 := fun v nl h tk m a b c d => ret v nl h tk m c a b d
  (repeat' (first | (k_unfold; (try dsimp only)) | (k_end; wrow_close) | ((with_reducible show wpAny _ _ (eval (Expr.Name _ _) _) _ _ _); first | ((k_here; (with_reducible first | (refine nmL (by first | exact nf754.1 | exact nf754.2.1 | exact nf754.2.2.1 | exact nf754.2.2.2.1 | exact nf754.2.2.2.2.1) (by k_asm) (by k_dflt (exact Eq.refl (some _))) ?_) | (refine nmL (by first | exact nf761.1 | exact nf761.2.1) (by k_asm) (by k_dflt (exact Eq.refl (some _))) ?_))))) | walk1 | (dsimp only; walk1) | (leave1; (try dsimp only)) | fail "no step"))
  all_goals (try dsimp only)
  all_goals (try k_unfold)
  all_goals (try dsimp only)
  all_goals (try k_unfold)
  all_goals (try dsimp only)
  all_goals (try k_unfold)
  all_goals (try dsimp only)
  all_goals (try (dsimp only))
  all_goals (with_reducible rename Fr _ _ _ _ => hf)
  all_goals (with_reducible rename News _ _ _ _ => hh)
  all_goals (refine ret2 _ _ _ _ _ hf (news_pick hh (by ktr_rel)) ⟨_, _, _, _, _, _, _, _, _, _, _, _, _, (by assumption), rfl⟩ ?_)
  all_goals k_allIn
theorem cancelTO3 (w : World) (x d sl s2 s12 lt en a3 a1 : Addr) (oW oS o2 o12 oL oE oA3 oA1 : Obj) (h : WTO w x d sl s2 s12 lt en a3 a1 oW oS o2 o12 oL oE oA3 oA1) (t3 : Tok) :
    Sp w 880 4800 754 [.ref x, .int 3 t3] [(x, instObj 783 d), (d, oW), (sl, oS), (s2, o2), (s12, o12), (lt, oL), (en, oE), (a3, oA3), (a1, oA1)] (XO w x d sl s2 s12 lt en oS) := by
  obtain ⟨h0, h1, h2, h3, h4, h5, h6, h7, h8⟩ := h
  obtain ⟨z, rfl⟩ := h0
  obtain ⟨q0Z, rfl⟩ := h1
  obtain ⟨t20, n2, rfl⟩ := h2
  obtain ⟨t120, n12, rfl⟩ := h3
  obtain ⟨nl, rfl⟩ := h4
  have lo : (en == sysModules) = false := by simpa [sysModules] using h6
  obtain ⟨tA3, gA3, uA3, nA3, rfl⟩ := h7
  obtain ⟨tA1, gA1, uA1, nA1, rfl⟩ := h8
  refine Sp.enter (binds := [("self", .ref x), ("key", .int 3 t3)]) (by k_is) (by k_is) (by decide) (fun s X => BindsTo.of_eq rfl) (locs rfl) ?_
  intro env outer base g mean mg mb L' h₁ s Q E B X T F N ND ret
  obtain ⟨n_x_d, n_x_sl, n_x_s2, n_x_s12, n_x_lt, n_x_en, n_x_a3, n_x_a1, n_d_sl, n_d_s2, n_d_s12, n_d_lt, n_d_en, n_d_a3, n_d_a1, n_sl_s2, n_sl_s12, n_sl_lt, n_sl_en, n_sl_a3, n_sl_a1, n_s2_s12, n_s2_lt, n_s2_en, n_s2_a3, n_s2_a1, n_s12_lt, n_s12_en, n_s12_a3, n_s12_a1, n_lt_en, n_lt_a3, n_lt_a1, n_en_a3, n_en_a1, n_a3_a1⟩ := nn9 ND
  revert h5 h6 lo B X T F N ND ret n_x_d n_x_sl n_x_s2 n_x_s12 n_x_lt n_x_en n_x_a3 n_x_a1 n_d_sl n_d_s2 n_d_s12 n_d_lt n_d_en n_d_a3 n_d_a1 n_sl_s2 n_sl_s12 n_sl_lt n_sl_en n_sl_a3 n_sl_a1 n_s2_s12 n_s2_lt n_s2_en n_s2_a3 n_s2_a1 n_s12_lt n_s12_en n_s12_a3 n_s12_a1 n_lt_en n_lt_a3 n_lt_a1 n_en_a3 n_en_a1 n_a3_a1
  revert w x d sl s2 s12 lt en a3 a1 oE t3 z q0Z t20 n2 t120 n12 nl tA3 gA3 uA3 nA3 tA1 gA1 uA1 nA1 env outer base g mean mg mb L' h₁ s Q E
  (iterate 2 (refine dum ?_))
  refine eps41 (by repeat' (first | refine @instNonemptyProd _ _ ?_ ?_ | infer_instance | exact neW | exact neS | exact neWhZ | exact neSlZ)) ?_
  intro h5 h6 lo B X T F N ND ret n_x_d n_x_sl n_x_s2 n_x_s12 n_x_lt n_x_en n_x_a3 n_x_a1 n_d_sl n_d_s2 n_d_s12 n_d_lt n_d_en n_d_a3 n_d_a1 n_sl_s2 n_sl_s12 n_sl_lt n_sl_en n_sl_a3 n_sl_a1 n_s2_s12 n_s2_lt n_s2_en n_s2_a3 n_s2_a1 n_s12_lt n_s12_en n_s12_a3 n_s12_a1 n_lt_en n_lt_a3 n_lt_a1 n_en_a3 n_en_a1 n_a3_a1
  have ND9 := ND
  have ret2 := fun v nl h tk m a b c d => ret v nl h tk m c a b d
  (repeat' (first | (k_unfold; (try dsimp only)) | (k_end; wrow_close) | ((with_reducible show wpAny _ _ (eval (Expr.Name _ _) _) _ _ _); first | ((k_here; (with_reducible first | (refine nmL (by first | exact nf754.1 | exact nf754.2.1 | exact nf754.2.2.1 | exact nf754.2.2.2.1 | exact nf754.2.2.2.2.1) (by k_asm) (by k_dflt (exact Eq.refl (some _))) ?_) | (refine nmL (by first | exact nf761.1 | exact nf761.2.1) (by k_asm) (by k_dflt (exact Eq.refl (some _))) ?_))))) | walk1 | (dsimp only; walk1) | (leave1; (try dsimp only)) | fail "no step"))
  all_goals (try dsimp only)
  all_goals (try k_unfold)
  all_goals (try dsimp only)
  all_goals (try k_unfold)
  all_goals (try dsimp only)
  all_goals (try k_unfold)
  all_goals (try dsimp only)
  all_goals (try (dsimp only))
  all_goals (with_reducible rename Fr _ _ _ _ => hf)
  all_goals (with_reducible rename News _ _ _ _ => hh)
  all_goals (refine ret2 _ _ _ _ _ hf (news_pick hh (by ktr_rel)) ⟨_, _, _, _, _, _, _, _, _, _, _, _, _, (by assumption), rfl⟩ ?_)
  all_goals k_allIn
theorem cancelOT1 (w : World) (x d sl s2 s12 lt en a3 a1 : Addr) (oW oS o2 o12 oL oE oA3 oA1 : Obj) (h : WOT w x d sl s2 s12 lt en a3 a1 oW oS o2 o12 oL oE oA3 oA1) (t3 : Tok) :
    Sp w 880 4800 754 [.ref x, .int 1 t3] [(x, instObj 783 d), (d, oW), (sl, oS), (s2, o2), (s12, o12), (lt, oL), (en, oE), (a3, oA3), (a1, oA1)] (XT w x d sl s2 s12 lt en oS) := by
  obtain ⟨h0, h1, h2, h3, h4, h5, h6, h7, h8⟩ := h
  obtain ⟨z, rfl⟩ := h0
  obtain ⟨q0Z, rfl⟩ := h1
  obtain ⟨t20, n2, rfl⟩ := h2
  obtain ⟨t120, n12, rfl⟩ := h3
  obtain ⟨nl, rfl⟩ := h4
  have lo : (en == sysModules) = false := by simpa [sysModules] using h6
  obtain ⟨tA1, gA1, uA1, nA1, rfl⟩ := h7
  obtain ⟨tA3, gA3, uA3, nA3, rfl⟩ := h8
  refine Sp.enter (binds := [("self", .ref x), ("key", .int 1 t3)]) (by k_is) (by k_is) (by decide) (fun s X => BindsTo.of_eq rfl) (locs rfl) ?_
  intro env outer base g mean mg mb L' h₁ s Q E B X T F N ND ret
  obtain ⟨n_x_d, n_x_sl, n_x_s2, n_x_s12, n_x_lt, n_x_en, n_x_a3, n_x_a1, n_d_sl, n_d_s2, n_d_s12, n_d_lt, n_d_en, n_d_a3, n_d_a1, n_sl_s2, n_sl_s12, n_sl_lt, n_sl_en, n_sl_a3, n_sl_a1, n_s2_s12, n_s2_lt, n_s2_en, n_s2_a3, n_s2_a1, n_s12_lt, n_s12_en, n_s12_a3, n_s12_a1, n_lt_en, n_lt_a3, n_lt_a1, n_en_a3, n_en_a1, n_a3_a1⟩ := nn9 ND
  revert h5 h6 lo B X T F N ND ret n_x_d n_x_sl n_x_s2 n_x_s12 n_x_lt n_x_en n_x_a3 n_x_a1 n_d_sl n_d_s2 n_d_s12 n_d_lt n_d_en n_d_a3 n_d_a1 n_sl_s2 n_sl_s12 n_sl_lt n_sl_en n_sl_a3 n_sl_a1 n_s2_s12 n_s2_lt n_s2_en n_s2_a3 n_s2_a1 n_s12_lt n_s12_en n_s12_a3 n_s12_a1 n_lt_en n_lt_a3 n_lt_a1 n_en_a3 n_en_a1 n_a3_a1
  revert w x d sl s2 s12 lt en a3 a1 oE t3 z q0Z t20 n2 t120 n12 nl tA1 gA1 uA1 nA1 tA3 gA3 uA3 nA3 env outer base g mean mg mb L' h₁ s Q E
  (iterate 2 (refine dum ?_))
  refine eps41 (by repeat' (first | refine @instNonemptyProd _ _ ?_ ?_ | infer_instance | exact neW | exact neS | exact neWhZ | exact neSlZ)) ?_
  intro h5 h6 lo B X T F N ND ret n_x_d n_x_sl n_x_s2 n_x_s12 n_x_lt n_x_en n_x_a3 n_x_a1 n_d_sl n_d_s2 n_d_s12 n_d_lt n_d_en n_d_a3 n_d_a1 n_sl_s2 n_sl_s12 n_sl_lt n_sl_en n_sl_a3 n_sl_a1 n_s2_s12 n_s2_lt n_s2_en n_s2_a3 n_s2_a1 n_s12_lt n_s12_en n_s12_a3 n_s12_a1 n_lt_en n_lt_a3 n_lt_a1 n_en_a3 n_en_a1 n_a3_a1
  have ND9 := ND
  have ret2 := fun v nl h tk m a b c d => ret v nl h tk m c a b d
  (repeat' (first | (k_unfold; (try dsimp only)) | (k_end; wrow_close) | ((with_reducible show wpAny _ _ (eval (Expr.Name _ _) _) _ _ _); first | ((k_here; (with_reducible first | (refine nmL (by first | exact nf754.1 | exact nf754.2.1 | exact nf754.2.2.1 | exact nf754.2.2.2.1 | exact nf754.2.2.2.2.1) (by k_asm) (by k_dflt (exact Eq.refl (some _))) ?_) | (refine nmL (by first | exact nf761.1 | exact nf761.2.1) (by k_asm) (by k_dflt (exact Eq.refl (some _))) ?_))))) | walk1 | (dsimp only; walk1) | (leave1; (try dsimp only)) | fail "no step"))
  all_goals (try dsimp only)
  all_goals (try k_unfold)
  all_goals (try dsimp only)
  all_goals (try k_unfold)
  all_goals (try dsimp only)
  all_goals (try k_unfold)
  all_goals (try dsimp only)
  all_goals (try (dsimp only))
  all_goals (with_reducible rename Fr _ _ _ _ => hf)
  all_goals (with_reducible rename News _ _ _ _ => hh)
  all_goals (refine ret2 _ _ _ _ _ hf (news_pick hh (by ktr_rel)) ⟨_, _, _, _, _, _, _, _, _, _, _, _, _, (by assumption), rfl⟩ ?_)
  all_goals k_allIn
inductive P_cancel3TO (w : World) (x : Addr) (d : Addr) (sl : Addr) (s2 : Addr) (s12 : Addr) (lt : Addr) (en : Addr) (oS : Obj) (v : Value) (nl : List (Addr × Obj)) : Prop where
  | mk (a3 : _) (a1 : _) (oW : _) (o2 : _) (o12 : _) (oL : _) (oE : _) (oA3 : _) (oA1 : _) (hh1 : WO w x d sl s2 s12 lt en a3 a1 oW oS o2 o12 oL oE oA3 oA1) (hh2 : nl = [(x, instObj 783 d), (d, oW), (sl, oS), (s2, o2), (s12, o12), (lt, oL), (en, oE), (a3, oA3), (a1, oA1)]) : P_cancel3TO w x d sl s2 s12 lt en oS v nl
theorem cancel3TO (w : World) (x d sl s2 s12 lt en a3 a1 : Addr) (oW oS o2 o12 oL oE oA3 oA1 : Obj) (h : WTO w x d sl s2 s12 lt en a3 a1 oW oS o2 o12 oL oE oA3 oA1) (t3 : Tok) :
    Sp w 880 4800 754 [.ref x, .int 3 t3] [(x, instObj 783 d), (d, oW), (sl, oS), (s2, o2), (s12, o12), (lt, oL), (en, oE), (a3, oA3), (a1, oA1)] (P_cancel3TO w x d sl s2 s12 lt en oS) :=
  (cancelTO3 w x d sl s2 s12 lt en a3 a1 oW oS o2 o12 oL oE oA3 oA1 h t3).mono fun v nl ⟨a3, a1, oA3, z, n2, t120, n12, nl9, oE, tA1, gA1, uA1, nA1, h6, e⟩ =>
    let ⟨_, h1, _, _, _, _, hn, _, _⟩ := h
    ⟨a3, a1, _, _, _, _, _, _, _, ⟨(WheD.of rfl), h1, ⟨_, rfl⟩, ⟨_, _, rfl⟩, ⟨_, rfl⟩, h6, hn, ⟨_, _, _, _, rfl⟩⟩, e⟩
theorem time1TO (w : World) (x d sl s2 s12 lt en a3 a1 : Addr) (oW oS o2 o12 oL oE oA3 oA1 : Obj) (h : WTO w x d sl s2 s12 lt en a3 a1 oW oS o2 o12 oL oE oA3 oA1) (t3 : Tok) :
    Sp w 870 4700 761 [.ref x, .int 1 t3] [(x, instObj 783 d), (d, oW), (sl, oS), (s2, o2), (s12, o12), (lt, oL), (en, oE), (a3, oA3), (a1, oA1)] (fun v nl => (∃ t, v = .int 60 t) ∧ nl = [(x, instObj 783 d), (d, oW), (sl, oS), (s2, o2), (s12, o12), (lt, oL), (en, oE), (a3, oA3), (a1, oA1)]) := by
  obtain ⟨h0, h1, h2, h3, h4, h5, h6, h7, h8⟩ := h
  obtain ⟨z, rfl⟩ := h0
  have lo : (en == sysModules) = false := by simpa [sysModules] using h6
  obtain ⟨tA3, gA3, uA3, nA3, rfl⟩ := h7
  obtain ⟨tA1, gA1, uA1, nA1, rfl⟩ := h8
  refine Sp.enter (binds := [("self", .ref x), ("key", .int 1 t3)]) (by k_is) (by k_is) (by decide) (fun s X => BindsTo.of_eq rfl) (locs rfl) ?_
  intro env outer base g mean mg mb L' h₁ s Q E B X T F N ND ret
  obtain ⟨n_x_d, n_x_sl, n_x_s2, n_x_s12, n_x_lt, n_x_en, n_x_a3, n_x_a1, n_d_sl, n_d_s2, n_d_s12, n_d_lt, n_d_en, n_d_a3, n_d_a1, n_sl_s2, n_sl_s12, n_sl_lt, n_sl_en, n_sl_a3, n_sl_a1, n_s2_s12, n_s2_lt, n_s2_en, n_s2_a3, n_s2_a1, n_s12_lt, n_s12_en, n_s12_a3, n_s12_a1, n_lt_en, n_lt_a3, n_lt_a1, n_en_a3, n_en_a1, n_a3_a1⟩ := nn9 ND
  revert h1 h2 h3 h4 h5 h6 lo B X T F N ND ret n_x_d n_x_sl n_x_s2 n_x_s12 n_x_lt n_x_en n_x_a3 n_x_a1 n_d_sl n_d_s2 n_d_s12 n_d_lt n_d_en n_d_a3 n_d_a1 n_sl_s2 n_sl_s12 n_sl_lt n_sl_en n_sl_a3 n_sl_a1 n_s2_s12 n_s2_lt n_s2_en n_s2_a3 n_s2_a1 n_s12_lt n_s12_en n_s12_a3 n_s12_a1 n_lt_en n_lt_a3 n_lt_a1 n_en_a3 n_en_a1 n_a3_a1
  revert w x d sl s2 s12 lt en a3 a1 oS o2 o12 oL oE t3 z tA3 gA3 uA3 nA3 tA1 gA1 uA1 nA1 env outer base g mean mg mb L' h₁ s Q E
  refine eps37 (by repeat' (first | refine @instNonemptyProd _ _ ?_ ?_ | infer_instance | exact neW | exact neS | exact neWhZ)) ?_
  intro h1 h2 h3 h4 h5 h6 lo B X T F N ND ret n_x_d n_x_sl n_x_s2 n_x_s12 n_x_lt n_x_en n_x_a3 n_x_a1 n_d_sl n_d_s2 n_d_s12 n_d_lt n_d_en n_d_a3 n_d_a1 n_sl_s2 n_sl_s12 n_sl_lt n_sl_en n_sl_a3 n_sl_a1 n_s2_s12 n_s2_lt n_s2_en n_s2_a3 n_s2_a1 n_s12_lt n_s12_en n_s12_a3 n_s12_a1 n_lt_en n_lt_a3 n_lt_a1 n_en_a3 n_en_a1 n_a3_a1
  have ND9 := ND
  have ret2 := fun v nl h tk m a b c d => ret v nl h tk m c a b d
  (repeat' (first | (k_unfold; (try dsimp only)) | (k_end; wrow_close) | ((with_reducible show wpAny _ _ (eval (Expr.Name _ _) _) _ _ _); first | ((k_here; (with_reducible first | (refine nmL (by first | exact nf754.1 | exact nf754.2.1 | exact nf754.2.2.1 | exact nf754.2.2.2.1 | exact nf754.2.2.2.2.1) (by k_asm) (by k_dflt (exact Eq.refl (some _))) ?_) | (refine nmL (by first | exact nf761.1 | exact nf761.2.1) (by k_asm) (by k_dflt (exact Eq.refl (some _))) ?_))))) | walk1 | (dsimp only; walk1) | (leave1; (try dsimp only)) | fail "no step"))
  all_goals (try dsimp only)
  all_goals (try k_unfold)
  all_goals (try dsimp only)
  all_goals (try k_unfold)
  all_goals (try dsimp only)
  all_goals (try k_unfold)
  all_goals (try dsimp only)
  all_goals (try (dsimp only))
  all_goals (with_reducible rename Fr _ _ _ _ => hf)
  all_goals (with_reducible rename News _ _ _ _ => hh)
  all_goals (refine ret2 _ _ _ _ _ hf hh ⟨?_, rfl⟩ ND)
  all_goals first | rfl | exact ⟨_, rfl⟩
theorem time1O (w : World) (x d sl s2 s12 lt en a3 a1 : Addr) (oW oS o2 o12 oL oE oA3 oA1 : Obj) (h : WO w x d sl s2 s12 lt en a3 a1 oW oS o2 o12 oL oE oA3 oA1) (t3 : Tok) :
    Sp w 870 4700 761 [.ref x, .int 1 t3] [(x, instObj 783 d), (d, oW), (sl, oS), (s2, o2), (s12, o12), (lt, oL), (en, oE), (a3, oA3), (a1, oA1)] (fun v nl => (∃ t, v = .int 60 t) ∧ nl = [(x, instObj 783 d), (d, oW), (sl, oS), (s2, o2), (s12, o12), (lt, oL), (en, oE), (a3, oA3), (a1, oA1)]) := by
  obtain ⟨h0, h1, h2, h3, h4, h5, h6, h7⟩ := h
  obtain ⟨z, rfl⟩ := h0
  have lo : (en == sysModules) = false := by simpa [sysModules] using h6
  obtain ⟨tA1, gA1, uA1, nA1, rfl⟩ := h7
  refine Sp.enter (binds := [("self", .ref x), ("key", .int 1 t3)]) (by k_is) (by k_is) (by decide) (fun s X => BindsTo.of_eq rfl) (locs rfl) ?_
  intro env outer base g mean mg mb L' h₁ s Q E B X T F N ND ret
  obtain ⟨n_x_d, n_x_sl, n_x_s2, n_x_s12, n_x_lt, n_x_en, n_x_a3, n_x_a1, n_d_sl, n_d_s2, n_d_s12, n_d_lt, n_d_en, n_d_a3, n_d_a1, n_sl_s2, n_sl_s12, n_sl_lt, n_sl_en, n_sl_a3, n_sl_a1, n_s2_s12, n_s2_lt, n_s2_en, n_s2_a3, n_s2_a1, n_s12_lt, n_s12_en, n_s12_a3, n_s12_a1, n_lt_en, n_lt_a3, n_lt_a1, n_en_a3, n_en_a1, n_a3_a1⟩ := nn9 ND
  revert h1 h2 h3 h4 h5 h6 lo B X T F N ND ret n_x_d n_x_sl n_x_s2 n_x_s12 n_x_lt n_x_en n_x_a3 n_x_a1 n_d_sl n_d_s2 n_d_s12 n_d_lt n_d_en n_d_a3 n_d_a1 n_sl_s2 n_sl_s12 n_sl_lt n_sl_en n_sl_a3 n_sl_a1 n_s2_s12 n_s2_lt n_s2_en n_s2_a3 n_s2_a1 n_s12_lt n_s12_en n_s12_a3 n_s12_a1 n_lt_en n_lt_a3 n_lt_a1 n_en_a3 n_en_a1 n_a3_a1
  revert w x d sl s2 s12 lt en a3 a1 oS o2 o12 oL oE oA3 t3 z tA1 gA1 uA1 nA1 env outer base g mean mg mb L' h₁ s Q E
  (iterate 3 (refine dum ?_))
  refine eps37 (by repeat' (first | refine @instNonemptyProd _ _ ?_ ?_ | infer_instance | exact neW | exact neS | exact neWhZ)) ?_
  intro h1 h2 h3 h4 h5 h6 lo B X T F N ND ret n_x_d n_x_sl n_x_s2 n_x_s12 n_x_lt n_x_en n_x_a3 n_x_a1 n_d_sl n_d_s2 n_d_s12 n_d_lt n_d_en n_d_a3 n_d_a1 n_sl_s2 n_sl_s12 n_sl_lt n_sl_en n_sl_a3 n_sl_a1 n_s2_s12 n_s2_lt n_s2_en n_s2_a3 n_s2_a1 n_s12_lt n_s12_en n_s12_a3 n_s12_a1 n_lt_en n_lt_a3 n_lt_a1 n_en_a3 n_en_a1 n_a3_a1
  have ND9 := ND
  have ret2 := fun v nl h tk m a b c d => ret v nl h tk m c a b d
  (repeat' (first | (k_unfold; (try dsimp only)) | (k_end; wrow_close) | ((with_reducible show wpAny _ _ (eval (Expr.Name _ _) _) _ _ _); first | ((k_here; (with_reducible first | (refine nmL (by first | exact nf754.1 | exact nf754.2.1 | exact nf754.2.2.1 | exact nf754.2.2.2.1 | exact nf754.2.2.2.2.1) (by k_asm) (by k_dflt (exact Eq.refl (some _))) ?_) | (refine nmL (by first | exact nf761.1 | exact nf761.2.1) (by k_asm) (by k_dflt (exact Eq.refl (some _))) ?_))))) | walk1 | (dsimp only; walk1) | (leave1; (try dsimp only)) | fail "no step"))
  all_goals (try dsimp only)
  all_goals (try k_unfold)
  all_goals (try dsimp only)
  all_goals (try k_unfold)
  all_goals (try dsimp only)
  all_goals (try k_unfold)
  all_goals (try dsimp only)
  all_goals (try (dsimp only))
  all_goals (with_reducible rename Fr _ _ _ _ => hf)
  all_goals (with_reducible rename News _ _ _ _ => hh)
  all_goals (refine ret2 _ _ _ _ _ hf hh ⟨?_, rfl⟩ ND)
  all_goals first | rfl | exact ⟨_, rfl⟩
theorem time3TO (w : World) (x d sl s2 s12 lt en a3 a1 : Addr) (oW oS o2 o12 oL oE oA3 oA1 : Obj) (h : WTO w x d sl s2 s12 lt en a3 a1 oW oS o2 o12 oL oE oA3 oA1) (t3 : Tok) :
    Sp w 870 4700 761 [.ref x, .int 3 t3] [(x, instObj 783 d), (d, oW), (sl, oS), (s2, o2), (s12, o12), (lt, oL), (en, oE), (a3, oA3), (a1, oA1)] (fun v nl => (∃ t, v = .int 50 t) ∧ nl = [(x, instObj 783 d), (d, oW), (sl, oS), (s2, o2), (s12, o12), (lt, oL), (en, oE), (a3, oA3), (a1, oA1)]) := by
  obtain ⟨h0, h1, h2, h3, h4, h5, h6, h7, h8⟩ := h
  obtain ⟨z, rfl⟩ := h0
  have lo : (en == sysModules) = false := by simpa [sysModules] using h6
  obtain ⟨tA3, gA3, uA3, nA3, rfl⟩ := h7
  obtain ⟨tA1, gA1, uA1, nA1, rfl⟩ := h8
  refine Sp.enter (binds := [("self", .ref x), ("key", .int 3 t3)]) (by k_is) (by k_is) (by decide) (fun s X => BindsTo.of_eq rfl) (locs rfl) ?_
  intro env outer base g mean mg mb L' h₁ s Q E B X T F N ND ret
  obtain ⟨n_x_d, n_x_sl, n_x_s2, n_x_s12, n_x_lt, n_x_en, n_x_a3, n_x_a1, n_d_sl, n_d_s2, n_d_s12, n_d_lt, n_d_en, n_d_a3, n_d_a1, n_sl_s2, n_sl_s12, n_sl_lt, n_sl_en, n_sl_a3, n_sl_a1, n_s2_s12, n_s2_lt, n_s2_en, n_s2_a3, n_s2_a1, n_s12_lt, n_s12_en, n_s12_a3, n_s12_a1, n_lt_en, n_lt_a3, n_lt_a1, n_en_a3, n_en_a1, n_a3_a1⟩ := nn9 ND
  revert h1 h2 h3 h4 h5 h6 lo B X T F N ND ret n_x_d n_x_sl n_x_s2 n_x_s12 n_x_lt n_x_en n_x_a3 n_x_a1 n_d_sl n_d_s2 n_d_s12 n_d_lt n_d_en n_d_a3 n_d_a1 n_sl_s2 n_sl_s12 n_sl_lt n_sl_en n_sl_a3 n_sl_a1 n_s2_s12 n_s2_lt n_s2_en n_s2_a3 n_s2_a1 n_s12_lt n_s12_en n_s12_a3 n_s12_a1 n_lt_en n_lt_a3 n_lt_a1 n_en_a3 n_en_a1 n_a3_a1
  revert w x d sl s2 s12 lt en a3 a1 oS o2 o12 oL oE t3 z tA3 gA3 uA3 nA3 tA1 gA1 uA1 nA1 env outer base g mean mg mb L' h₁ s Q E
  refine eps37 (by repeat' (first | refine @instNonemptyProd _ _ ?_ ?_ | infer_instance | exact neW | exact neS | exact neWhZ)) ?_
  intro h1 h2 h3 h4 h5 h6 lo B X T F N ND ret n_x_d n_x_sl n_x_s2 n_x_s12 n_x_lt n_x_en n_x_a3 n_x_a1 n_d_sl n_d_s2 n_d_s12 n_d_lt n_d_en n_d_a3 n_d_a1 n_sl_s2 n_sl_s12 n_sl_lt n_sl_en n_sl_a3 n_sl_a1 n_s2_s12 n_s2_lt n_s2_en n_s2_a3 n_s2_a1 n_s12_lt n_s12_en n_s12_a3 n_s12_a1 n_lt_en n_lt_a3 n_lt_a1 n_en_a3 n_en_a1 n_a3_a1
  have ND9 := ND
  have ret2 := fun v nl h tk m a b c d => ret v nl h tk m c a b d
  (repeat' (first | (k_unfold; (try dsimp only)) | (k_end; wrow_close) | ((with_reducible show wpAny _ _ (eval (Expr.Name _ _) _) _ _ _); first | ((k_here; (with_reducible first | (refine nmL (by first | exact nf754.1 | exact nf754.2.1 | exact nf754.2.2.1 | exact nf754.2.2.2.1 | exact nf754.2.2.2.2.1) (by k_asm) (by k_dflt (exact Eq.refl (some _))) ?_) | (refine nmL (by first | exact nf761.1 | exact nf761.2.1) (by k_asm) (by k_dflt (exact Eq.refl (some _))) ?_))))) | walk1 | (dsimp only; walk1) | (leave1; (try dsimp only)) | fail "no step"))
  all_goals (try dsimp only)
  all_goals (try k_unfold)
  all_goals (try dsimp only)
  all_goals (try k_unfold)
  all_goals (try dsimp only)
  all_goals (try k_unfold)
  all_goals (try dsimp only)
  all_goals (try (dsimp only))
  all_goals (with_reducible rename Fr _ _ _ _ => hf)
  all_goals (with_reducible rename News _ _ _ _ => hh)
  all_goals (refine ret2 _ _ _ _ _ hf hh ⟨?_, rfl⟩ ND)
  all_goals first | rfl | exact ⟨_, rfl⟩
theorem time3O (w : World) (x d sl s2 s12 lt en a3 a1 : Addr) (oW oS o2 o12 oL oE oA3 oA1 : Obj) (h : WO w x d sl s2 s12 lt en a3 a1 oW oS o2 o12 oL oE oA3 oA1) (t3 : Tok) :
    Sp w 870 4700 761 [.ref x, .int 3 t3] [(x, instObj 783 d), (d, oW), (sl, oS), (s2, o2), (s12, o12), (lt, oL), (en, oE), (a3, oA3), (a1, oA1)] (fun v nl => (v = .none) ∧ nl = [(x, instObj 783 d), (d, oW), (sl, oS), (s2, o2), (s12, o12), (lt, oL), (en, oE), (a3, oA3), (a1, oA1)]) := by
  obtain ⟨h0, h1, h2, h3, h4, h5, h6, h7⟩ := h
  obtain ⟨z, rfl⟩ := h0
  have lo : (en == sysModules) = false := by simpa [sysModules] using h6
  obtain ⟨tA1, gA1, uA1, nA1, rfl⟩ := h7
  refine Sp.enter (binds := [("self", .ref x), ("key", .int 3 t3)]) (by k_is) (by k_is) (by decide) (fun s X => BindsTo.of_eq rfl) (locs rfl) ?_
  intro env outer base g mean mg mb L' h₁ s Q E B X T F N ND ret
  obtain ⟨n_x_d, n_x_sl, n_x_s2, n_x_s12, n_x_lt, n_x_en, n_x_a3, n_x_a1, n_d_sl, n_d_s2, n_d_s12, n_d_lt, n_d_en, n_d_a3, n_d_a1, n_sl_s2, n_sl_s12, n_sl_lt, n_sl_en, n_sl_a3, n_sl_a1, n_s2_s12, n_s2_lt, n_s2_en, n_s2_a3, n_s2_a1, n_s12_lt, n_s12_en, n_s12_a3, n_s12_a1, n_lt_en, n_lt_a3, n_lt_a1, n_en_a3, n_en_a1, n_a3_a1⟩ := nn9 ND
  revert h1 h2 h3 h4 h5 h6 lo B X T F N ND ret n_x_d n_x_sl n_x_s2 n_x_s12 n_x_lt n_x_en n_x_a3 n_x_a1 n_d_sl n_d_s2 n_d_s12 n_d_lt n_d_en n_d_a3 n_d_a1 n_sl_s2 n_sl_s12 n_sl_lt n_sl_en n_sl_a3 n_sl_a1 n_s2_s12 n_s2_lt n_s2_en n_s2_a3 n_s2_a1 n_s12_lt n_s12_en n_s12_a3 n_s12_a1 n_lt_en n_lt_a3 n_lt_a1 n_en_a3 n_en_a1 n_a3_a1
  revert w x d sl s2 s12 lt en a3 a1 oS o2 o12 oL oE oA3 t3 z tA1 gA1 uA1 nA1 env outer base g mean mg mb L' h₁ s Q E
  (iterate 3 (refine dum ?_))
  refine eps37 (by repeat' (first | refine @instNonemptyProd _ _ ?_ ?_ | infer_instance | exact neW | exact neS | exact neWhZ)) ?_
  intro h1 h2 h3 h4 h5 h6 lo B X T F N ND ret n_x_d n_x_sl n_x_s2 n_x_s12 n_x_lt n_x_en n_x_a3 n_x_a1 n_d_sl n_d_s2 n_d_s12 n_d_lt n_d_en n_d_a3 n_d_a1 n_sl_s2 n_sl_s12 n_sl_lt n_sl_en n_sl_a3 n_sl_a1 n_s2_s12 n_s2_lt n_s2_en n_s2_a3 n_s2_a1 n_s12_lt n_s12_en n_s12_a3 n_s12_a1 n_lt_en n_lt_a3 n_lt_a1 n_en_a3 n_en_a1 n_a3_a1
  have ND9 := ND
  have ret2 := fun v nl h tk m a b c d => ret v nl h tk m c a b d
  (repeat' (first | (k_unfold; (try dsimp only)) | (k_end; wrow_close) | ((with_reducible show wpAny _ _ (eval (Expr.Name _ _) _) _ _ _); first | ((k_here; (with_reducible first | (refine nmL (by first | exact nf754.1 | exact nf754.2.1 | exact nf754.2.2.1 | exact nf754.2.2.2.1 | exact nf754.2.2.2.2.1) (by k_asm) (by k_dflt (exact Eq.refl (some _))) ?_) | (refine nmL (by first | exact nf761.1 | exact nf761.2.1) (by k_asm) (by k_dflt (exact Eq.refl (some _))) ?_))))) | walk1 | (dsimp only; walk1) | (leave1; (try dsimp only)) | fail "no step"))
  all_goals (try dsimp only)
  all_goals (try k_unfold)
  all_goals (try dsimp only)
  all_goals (try k_unfold)
  all_goals (try dsimp only)
  all_goals (try k_unfold)
  all_goals (try dsimp only)
  all_goals (try (dsimp only))
  all_goals (with_reducible rename Fr _ _ _ _ => hf)
  all_goals (with_reducible rename News _ _ _ _ => hh)
  all_goals (refine ret2 _ _ _ _ _ hf hh ⟨?_, rfl⟩ ND)
  all_goals first | rfl | exact ⟨_, rfl⟩
end Mine
end PartC5d
section PartC5b
theorem Mine.flush9 : True := by first | (w_top off; walk1) | trivial
open PySem PySem.W PySem.Calls PyProof.Rows
set_option Elab.async false
set_option maxRecDepth 100000
set_option maxHeartbeats 4000000
set_option rowWalk.seconds 0
set_option pp.maxSteps 6000
namespace Mine
inductive P_put3E (w : World) (x d sl s2 s12 lt en : Addr) (oS : Obj) (v : Value) (nl : List (Addr × Obj)) : Prop where
  | mk (a3 a1 : Addr) (oW o2 o12 oL oE oA3 oA1 : Obj) (hh1 : WT w x d sl s2 s12 lt en a3 a1 oW oS o2 o12 oL oE oA3 oA1) (hh2 : nl = [(x, instObj 783 d), (d, oW), (sl, oS), (s2, o2), (s12, o12), (lt, oL), (en, oE), (a3, oA3), (a1, oA1)]) : P_put3E w x d sl s2 s12 lt en oS v nl
theorem put3E_g (w : World) (x d sl s2 s12 lt en a3 a1 : Addr) (oW oS o2 o12 oL oE oA3 oA1 : Obj) (h0 : WheD w sl lt en oW) (h1 : SlD s2 s12 oS) (hen : @Ne Nat en 1) (t3 t4 : Tok) (C : Sp w 880 4800 754 [.ref x, .int 3 t3] [(x, instObj 783 d), (d, oW), (sl, oS), (s2, o2), (s12, o12), (lt, oL), (en, oE), (a3, oA3), (a1, oA1)] (XE w x d sl s2 s12 lt en oS)) :
    Sp w 870 4700 740 [.ref x, .int 3 t3, .int 50 t4] [(x, instObj 783 d), (d, oW), (sl, oS), (s2, o2), (s12, o12), (lt, oL), (en, oE), (a3, oA3), (a1, oA1)] (P_put3E w x d sl s2 s12 lt en oS) := by
  have h1' := h1
  obtain ⟨z1Z, rfl⟩ := h0
  obtain ⟨q0Z, rfl⟩ := h1
  have lo : (en == sysModules) = false := by simpa [sysModules] using hen
  refine Sp.enter (binds := [("self", .ref x), ("key", .int 3 t3), ("time", .int 50 t4)]) (by k_is) (by k_is) (by decide) (fun s X => BindsTo.of_eq rfl) (locs rfl) ?_
  intro env outer base g mean mg mb L' h₁ s Q E B X T F N ND ret
  revert hen h1' C lo B X T F N ND ret
  revert w x d sl s2 s12 lt en a3 a1 o2 o12 oL oE oA3 oA1 t3 t4 z1Z q0Z env outer base g mean mg mb L' h₁ s Q E
  refine eps32 (by repeat' (first | refine @instNonemptyProd _ _ ?_ ?_ | infer_instance | exact neW | exact neS | exact neWhZ | exact neSlZ)) ?_
  intro hen h1' C lo B X T F N ND ret
  have ND9 := ND
  have ret2 := fun v nl h tk m a b c d => ret v nl h tk m c a b d
  (repeat' (first | (k_unfold; (try dsimp only)) | (k_end; wrow_close) | ((with_reducible show wpAny _ _ (eval (Expr.Name _ _) _) _ _ _); first | ((k_here; (with_reducible first | (refine nmL (by first | exact nf740.1 | exact nf740.2.1 | exact nf740.2.2.1) (by k_asm) (by k_dflt (exact Eq.refl (some _))) ?_))))) | ((with_reducible show wpAny _ _ (call (Value.ref _) _) _ _ _); first | (((with_reducible show wpAny _ _ (call (Value.ref 754) _) _ _ _); k_dflt (((refine Sp.use C (by k_asm) (by k_asm) (by k_asm) (by k_asm) (by k_asm) rfl rfl rfl rfl (nb rfl) (nb rfl) (by ktr_rel) ?znd ?_; (case znd => k_allIn); k_whole); intro v9 nl9 h9 tk9 P9; obtain ⟨a3, a1, oA3, oA1, z, n2, n12, nl9, oE, h6, rfl⟩ := P9; intro F9 N9 ND9; dsimp only [List.cons_append, List.nil_append] at N9 ND9; (try k_sweep); (try dsimp only); obtain ⟨n_x_d, n_x_sl, n_x_s2, n_x_s12, n_x_lt, n_x_en, n_x_a3, n_x_a1, n_d_sl, n_d_s2, n_d_s12, n_d_lt, n_d_en, n_d_a3, n_d_a1, n_sl_s2, n_sl_s12, n_sl_lt, n_sl_en, n_sl_a3, n_sl_a1, n_s2_s12, n_s2_lt, n_s2_en, n_s2_a3, n_s2_a1, n_s12_lt, n_s12_en, n_s12_a3, n_s12_a1, n_lt_en, n_lt_a3, n_lt_a1, n_en_a3, n_en_a1, n_a3_a1⟩ := nn9 ND9))))) | walk1 | (dsimp only; walk1) | (leave1; (try dsimp only)) | fail "no step"))
  all_goals (try dsimp only)
  all_goals (try k_unfold)
  all_goals (try dsimp only)
  all_goals (try k_unfold)
  all_goals (try dsimp only)
  all_goals (try k_unfold)
  all_goals (try dsimp only)
  all_goals (try (dsimp only))
  all_goals (with_reducible rename Fr _ _ _ _ => hf)
  all_goals (with_reducible rename News _ _ _ _ => hh)
  all_goals (refine ret2 _ _ _ _ _ hf (news_pick hh (by ktr_rel)) ⟨_, a1, _, _, _, _, _, _, _, ⟨(WheD.of rfl), h1', ⟨_, _, rfl⟩, ⟨_, rfl⟩, ⟨_, rfl⟩, (by assumption), hen, ⟨_, _, _, _, rfl⟩⟩, rfl⟩ ?_)
  all_goals k_allIn
inductive P_put3O (w : World) (x d sl s2 s12 lt en : Addr) (oS : Obj) (v : Value) (nl : List (Addr × Obj)) : Prop where
  | mk (a3 a1 : Addr) (oW o2 o12 oL oE oA3 oA1 : Obj) (hh1 : WOT w x d sl s2 s12 lt en a3 a1 oW oS o2 o12 oL oE oA3 oA1) (hh2 : nl = [(x, instObj 783 d), (d, oW), (sl, oS), (s2, o2), (s12, o12), (lt, oL), (en, oE), (a3, oA3), (a1, oA1)]) : P_put3O w x d sl s2 s12 lt en oS v nl
theorem put3O_g (w : World) (x d sl s2 s12 lt en a3 a1 : Addr) (oW oS o2 o12 oL oE oA3 oA1 : Obj) (h0 : WheD w sl lt en oW) (h1 : SlD s2 s12 oS) (hen : @Ne Nat en 1) (t3 t4 : Tok) (C : Sp w 880 4800 754 [.ref x, .int 3 t3] [(x, instObj 783 d), (d, oW), (sl, oS), (s2, o2), (s12, o12), (lt, oL), (en, oE), (a3, oA3), (a1, oA1)] (XO w x d sl s2 s12 lt en oS)) :
    Sp w 870 4700 740 [.ref x, .int 3 t3, .int 50 t4] [(x, instObj 783 d), (d, oW), (sl, oS), (s2, o2), (s12, o12), (lt, oL), (en, oE), (a3, oA3), (a1, oA1)] (P_put3O w x d sl s2 s12 lt en oS) := by
  have h1' := h1
  obtain ⟨z1Z, rfl⟩ := h0
  obtain ⟨q0Z, rfl⟩ := h1
  have lo : (en == sysModules) = false := by simpa [sysModules] using hen
  refine Sp.enter (binds := [("self", .ref x), ("key", .int 3 t3), ("time", .int 50 t4)]) (by k_is) (by k_is) (by decide) (fun s X => BindsTo.of_eq rfl) (locs rfl) ?_
  intro env outer base g mean mg mb L' h₁ s Q E B X T F N ND ret
  revert hen h1' C lo B X T F N ND ret
  revert w x d sl s2 s12 lt en a3 a1 o2 o12 oL oE oA3 oA1 t3 t4 z1Z q0Z env outer base g mean mg mb L' h₁ s Q E
  refine eps32 (by repeat' (first | refine @instNonemptyProd _ _ ?_ ?_ | infer_instance | exact neW | exact neS | exact neWhZ | exact neSlZ)) ?_
  intro hen h1' C lo B X T F N ND ret
  have ND9 := ND
  have ret2 := fun v nl h tk m a b c d => ret v nl h tk m c a b d
  (repeat' (first | (k_unfold; (try dsimp only)) | (k_end; wrow_close) | ((with_reducible show wpAny _ _ (eval (Expr.Name _ _) _) _ _ _); first | ((k_here; (with_reducible first | (refine nmL (by first | exact nf740.1 | exact nf740.2.1 | exact nf740.2.2.1) (by k_asm) (by k_dflt (exact Eq.refl (some _))) ?_))))) | ((with_reducible show wpAny _ _ (call (Value.ref _) _) _ _ _); first | (((with_reducible show wpAny _ _ (call (Value.ref 754) _) _ _ _); k_dflt (((refine Sp.use C (by k_asm) (by k_asm) (by k_asm) (by k_asm) (by k_asm) rfl rfl rfl rfl (nb rfl) (nb rfl) (by ktr_rel) ?znd ?_; (case znd => k_allIn); k_whole); intro v9 nl9 h9 tk9 P9; obtain ⟨a3, a1, oA3, z, n2, t120, n12, nl9, oE, tA1, gA1, uA1, nA1, h6, rfl⟩ := P9; intro F9 N9 ND9; dsimp only [List.cons_append, List.nil_append] at N9 ND9; (try k_sweep); (try dsimp only); obtain ⟨n_x_d, n_x_sl, n_x_s2, n_x_s12, n_x_lt, n_x_en, n_x_a3, n_x_a1, n_d_sl, n_d_s2, n_d_s12, n_d_lt, n_d_en, n_d_a3, n_d_a1, n_sl_s2, n_sl_s12, n_sl_lt, n_sl_en, n_sl_a3, n_sl_a1, n_s2_s12, n_s2_lt, n_s2_en, n_s2_a3, n_s2_a1, n_s12_lt, n_s12_en, n_s12_a3, n_s12_a1, n_lt_en, n_lt_a3, n_lt_a1, n_en_a3, n_en_a1, n_a3_a1⟩ := nn9 ND9))))) | walk1 | (dsimp only; walk1) | (leave1; (try dsimp only)) | fail "no step"))
  all_goals (try dsimp only)
  all_goals (try k_unfold)
  all_goals (try dsimp only)
  all_goals (try k_unfold)
  all_goals (try dsimp only)
  all_goals (try k_unfold)
  all_goals (try dsimp only)
  all_goals (try (dsimp only))
  all_goals (with_reducible rename Fr _ _ _ _ => hf)
  all_goals (with_reducible rename News _ _ _ _ => hh)
  all_goals (refine ret2 _ _ _ _ _ hf (news_pick hh (by ktr_rel)) ⟨_, _, _, _, _, _, _, _, _, ⟨(WheD.of rfl), h1', ⟨_, _, rfl⟩, ⟨_, _, rfl⟩, ⟨_, rfl⟩, (by assumption), hen, ⟨_, _, _, _, rfl⟩, ⟨_, _, _, _, rfl⟩⟩, rfl⟩ ?_)
  all_goals k_allIn
theorem put3E (w : World) (x d sl s2 s12 lt en a3 a1 : Addr) (oW oS o2 o12 oL oE oA3 oA1 : Obj) (h : WE w x d sl s2 s12 lt en a3 a1 oW oS o2 o12 oL oE oA3 oA1) (t3 t4 : Tok) :
    Sp w 870 4700 740 [.ref x, .int 3 t3, .int 50 t4] [(x, instObj 783 d), (d, oW), (sl, oS), (s2, o2), (s12, o12), (lt, oL), (en, oE), (a3, oA3), (a1, oA1)] (P_put3E w x d sl s2 s12 lt en oS) :=
  put3E_g w x d sl s2 s12 lt en a3 a1 oW oS o2 o12 oL oE oA3 oA1 (by obtain ⟨h0, h1⟩ := h; exact h0) (by obtain ⟨h0, h1⟩ := h; exact h1) (by obtain ⟨h0, h1, h2, h3, h4, h5, h6⟩ := h; exact h6) t3 t4 (cancelE3 w x d sl s2 s12 lt en a3 a1 oW oS o2 o12 oL oE oA3 oA1 h t3)
theorem put3O (w : World) (x d sl s2 s12 lt en a3 a1 : Addr) (oW oS o2 o12 oL oE oA3 oA1 : Obj) (h : WO w x d sl s2 s12 lt en a3 a1 oW oS o2 o12 oL oE oA3 oA1) (t3 t4 : Tok) :
    Sp w 870 4700 740 [.ref x, .int 3 t3, .int 50 t4] [(x, instObj 783 d), (d, oW), (sl, oS), (s2, o2), (s12, o12), (lt, oL), (en, oE), (a3, oA3), (a1, oA1)] (P_put3O w x d sl s2 s12 lt en oS) :=
  put3O_g w x d sl s2 s12 lt en a3 a1 oW oS o2 o12 oL oE oA3 oA1 (by obtain ⟨h0, h1⟩ := h; exact h0) (by obtain ⟨h0, h1⟩ := h; exact h1) (by obtain ⟨h0, h1, h2, h3, h4, h5, h6⟩ := h; exact h6) t3 t4 (cancelO3 w x d sl s2 s12 lt en a3 a1 oW oS o2 o12 oL oE oA3 oA1 h t3)
theorem put3TO (w : World) (x d sl s2 s12 lt en a3 a1 : Addr) (oW oS o2 o12 oL oE oA3 oA1 : Obj) (h : WTO w x d sl s2 s12 lt en a3 a1 oW oS o2 o12 oL oE oA3 oA1) (t3 t4 : Tok) :
    Sp w 870 4700 740 [.ref x, .int 3 t3, .int 50 t4] [(x, instObj 783 d), (d, oW), (sl, oS), (s2, o2), (s12, o12), (lt, oL), (en, oE), (a3, oA3), (a1, oA1)] (P_put3O w x d sl s2 s12 lt en oS) :=
  put3O_g w x d sl s2 s12 lt en a3 a1 oW oS o2 o12 oL oE oA3 oA1 (by obtain ⟨h0, h1⟩ := h; exact h0) (by obtain ⟨h0, h1⟩ := h; exact h1) (by obtain ⟨h0, h1, h2, h3, h4, h5, h6⟩ := h; exact h6) t3 t4 (cancelTO3 w x d sl s2 s12 lt en a3 a1 oW oS o2 o12 oL oE oA3 oA1 h t3)
end Mine
end PartC5b
section PartC5c
theorem Mine.flush10 : True := by first | (w_top off; walk1) | trivial
open PySem PySem.W PySem.Calls PyProof.Rows
set_option Elab.async false
set_option maxRecDepth 100000
set_option maxHeartbeats 4000000
set_option rowWalk.seconds 0
set_option pp.maxSteps 6000
namespace Mine
inductive P_put1T (w : World) (x d sl s2 s12 lt en : Addr) (oS : Obj) (v : Value) (nl : List (Addr × Obj)) : Prop where
  | mk (a3 a1 : Addr) (oW o2 o12 oL oE oA3 oA1 : Obj) (hh1 : WTO w x d sl s2 s12 lt en a3 a1 oW oS o2 o12 oL oE oA3 oA1) (hh2 : nl = [(x, instObj 783 d), (d, oW), (sl, oS), (s2, o2), (s12, o12), (lt, oL), (en, oE), (a3, oA3), (a1, oA1)]) : P_put1T w x d sl s2 s12 lt en oS v nl
theorem put1T_g (w : World) (x d sl s2 s12 lt en a3 a1 : Addr) (oW oS o2 o12 oL oE oA3 oA1 : Obj) (h0 : WheD w sl lt en oW) (h1 : SlD s2 s12 oS) (hen : @Ne Nat en 1) (t3 t4 : Tok) (C : Sp w 880 4800 754 [.ref x, .int 1 t3] [(x, instObj 783 d), (d, oW), (sl, oS), (s2, o2), (s12, o12), (lt, oL), (en, oE), (a3, oA3), (a1, oA1)] (XT w x d sl s2 s12 lt en oS)) :
    Sp w 870 4700 740 [.ref x, .int 1 t3, .int 60 t4] [(x, instObj 783 d), (d, oW), (sl, oS), (s2, o2), (s12, o12), (lt, oL), (en, oE), (a3, oA3), (a1, oA1)] (P_put1T w x d sl s2 s12 lt en oS) := by
  have h1' := h1
  obtain ⟨z1Z, rfl⟩ := h0
  obtain ⟨q0Z, rfl⟩ := h1
  have lo : (en == sysModules) = false := by simpa [sysModules] using hen
  refine Sp.enter (binds := [("self", .ref x), ("key", .int 1 t3), ("time", .int 60 t4)]) (by k_is) (by k_is) (by decide) (fun s X => BindsTo.of_eq rfl) (locs rfl) ?_
  intro env outer base g mean mg mb L' h₁ s Q E B X T F N ND ret
  revert hen h1' C lo B X T F N ND ret
  revert w x d sl s2 s12 lt en a3 a1 o2 o12 oL oE oA3 oA1 t3 t4 z1Z q0Z env outer base g mean mg mb L' h₁ s Q E
  refine eps32 (by repeat' (first | refine @instNonemptyProd _ _ ?_ ?_ | infer_instance | exact neW | exact neS | exact neWhZ | exact neSlZ)) ?_
  intro hen h1' C lo B X T F N ND ret
  have ND9 := ND
  have ret2 := fun v nl h tk m a b c d => ret v nl h tk m c a b d
  (repeat' (first | (k_unfold; (try dsimp only)) | (k_end; wrow_close) | ((with_reducible show wpAny _ _ (eval (Expr.Name _ _) _) _ _ _); first | ((k_here; (with_reducible first | (refine nmL (by first | exact nf740.1 | exact nf740.2.1 | exact nf740.2.2.1) (by k_asm) (by k_dflt (exact Eq.refl (some _))) ?_))))) | ((with_reducible show wpAny _ _ (call (Value.ref _) _) _ _ _); first | (((with_reducible show wpAny _ _ (call (Value.ref 754) _) _ _ _); k_dflt (((refine Sp.use C (by k_asm) (by k_asm) (by k_asm) (by k_asm) (by k_asm) rfl rfl rfl rfl (nb rfl) (nb rfl) (by ktr_rel) ?znd ?_; (case znd => k_allIn); k_whole); intro v9 nl9 h9 tk9 P9; obtain ⟨a3, a1, oA1, z, t20, n2, n12, nl9, oE, tA3, gA3, uA3, nA3, h6, rfl⟩ := P9; intro F9 N9 ND9; dsimp only [List.cons_append, List.nil_append] at N9 ND9; (try k_sweep); (try dsimp only); obtain ⟨n_x_d, n_x_sl, n_x_s2, n_x_s12, n_x_lt, n_x_en, n_x_a3, n_x_a1, n_d_sl, n_d_s2, n_d_s12, n_d_lt, n_d_en, n_d_a3, n_d_a1, n_sl_s2, n_sl_s12, n_sl_lt, n_sl_en, n_sl_a3, n_sl_a1, n_s2_s12, n_s2_lt, n_s2_en, n_s2_a3, n_s2_a1, n_s12_lt, n_s12_en, n_s12_a3, n_s12_a1, n_lt_en, n_lt_a3, n_lt_a1, n_en_a3, n_en_a1, n_a3_a1⟩ := nn9 ND9))))) | walk1 | (dsimp only; walk1) | (leave1; (try dsimp only)) | fail "no step"))
  all_goals (try dsimp only)
  all_goals (try k_unfold)
  all_goals (try dsimp only)
  all_goals (try k_unfold)
  all_goals (try dsimp only)
  all_goals (try k_unfold)
  all_goals (try dsimp only)
  all_goals (try (dsimp only))
  all_goals (with_reducible rename Fr _ _ _ _ => hf)
  all_goals (with_reducible rename News _ _ _ _ => hh)
  all_goals (refine ret2 _ _ _ _ _ hf (news_pick hh (by ktr_rel)) ⟨_, _, _, _, _, _, _, _, _, ⟨(WheD.of rfl), h1', ⟨_, _, rfl⟩, ⟨_, _, rfl⟩, ⟨_, rfl⟩, (by assumption), hen, ⟨_, _, _, _, rfl⟩, ⟨_, _, _, _, rfl⟩⟩, rfl⟩ ?_)
  all_goals k_allIn
theorem put1T (w : World) (x d sl s2 s12 lt en a3 a1 : Addr) (oW oS o2 o12 oL oE oA3 oA1 : Obj) (h : WT w x d sl s2 s12 lt en a3 a1 oW oS o2 o12 oL oE oA3 oA1) (t3 t4 : Tok) :
    Sp w 870 4700 740 [.ref x, .int 1 t3, .int 60 t4] [(x, instObj 783 d), (d, oW), (sl, oS), (s2, o2), (s12, o12), (lt, oL), (en, oE), (a3, oA3), (a1, oA1)] (P_put1T w x d sl s2 s12 lt en oS) :=
  put1T_g w x d sl s2 s12 lt en a3 a1 oW oS o2 o12 oL oE oA3 oA1 (by obtain ⟨h0, h1⟩ := h; exact h0) (by obtain ⟨h0, h1⟩ := h; exact h1) (by obtain ⟨h0, h1, h2, h3, h4, h5, h6⟩ := h; exact h6) t3 t4 (cancelT1 w x d sl s2 s12 lt en a3 a1 oW oS o2 o12 oL oE oA3 oA1 h t3)
theorem put1OT (w : World) (x d sl s2 s12 lt en a3 a1 : Addr) (oW oS o2 o12 oL oE oA3 oA1 : Obj) (h : WOT w x d sl s2 s12 lt en a3 a1 oW oS o2 o12 oL oE oA3 oA1) (t3 t4 : Tok) :
    Sp w 870 4700 740 [.ref x, .int 1 t3, .int 60 t4] [(x, instObj 783 d), (d, oW), (sl, oS), (s2, o2), (s12, o12), (lt, oL), (en, oE), (a3, oA3), (a1, oA1)] (P_put1T w x d sl s2 s12 lt en oS) :=
  put1T_g w x d sl s2 s12 lt en a3 a1 oW oS o2 o12 oL oE oA3 oA1 (by obtain ⟨h0, h1⟩ := h; exact h0) (by obtain ⟨h0, h1⟩ := h; exact h1) (by obtain ⟨h0, h1, h2, h3, h4, h5, h6⟩ := h; exact h6) t3 t4 (cancelOT1 w x d sl s2 s12 lt en a3 a1 oW oS o2 o12 oL oE oA3 oA1 h t3)
end Mine
end PartC5c
section PartC5e
open PySem PySem.W PySem.Calls PyProof.Rows
set_option Elab.async false
set_option maxRecDepth 100000
set_option maxHeartbeats 4000000
set_option rowWalk.seconds 0
set_option pp.maxSteps 6000
namespace Mine

def WIn (w : World) (x d sl s2 s12 lt en a3 a1 : Addr) (oW oS o2 o12 oL oE oA3 oA1 : Obj) : Prop := WE w x d sl s2 s12 lt en a3 a1 oW oS o2 o12 oL oE oA3 oA1 ∨ WTO w x d sl s2 s12 lt en a3 a1 oW oS o2 o12 oL oE oA3 oA1 ∨ WO w x d sl s2 s12 lt en a3 a1 oW oS o2 o12 oL oE oA3 oA1
def WMid (w : World) (x d sl s2 s12 lt en a3 a1 : Addr) (oW oS o2 o12 oL oE oA3 oA1 : Obj) : Prop := WT w x d sl s2 s12 lt en a3 a1 oW oS o2 o12 oL oE oA3 oA1 ∨ WOT w x d sl s2 s12 lt en a3 a1 oW oS o2 o12 oL oE oA3 oA1
inductive P_put3_sp (w : World) (x : Addr) (d : Addr) (sl : Addr) (s2 : Addr) (s12 : Addr) (lt : Addr) (en : Addr) (oS : Obj) (v : Value) (nl : List (Addr × Obj)) : Prop where
  | mk (a3 : _) (a1 : _) (oW : _) (o2 : _) (o12 : _) (oL : _) (oE : _) (oA3 : _) (oA1 : _) (hh1 : WMid w x d sl s2 s12 lt en a3 a1 oW oS o2 o12 oL oE oA3 oA1) (hh2 : nl = [(x, instObj 783 d), (d, oW), (sl, oS), (s2, o2), (s12, o12), (lt, oL), (en, oE), (a3, oA3), (a1, oA1)]) : P_put3_sp w x d sl s2 s12 lt en oS v nl
theorem put3_sp (w : World) (x d sl s2 s12 lt en a3 a1 : Addr) (oW oS o2 o12 oL oE oA3 oA1 : Obj) (h : WIn w x d sl s2 s12 lt en a3 a1 oW oS o2 o12 oL oE oA3 oA1) (t3 t4 : Tok) :
    Sp w 870 4700 740 [.ref x, .int 3 t3, .int 50 t4] [(x, instObj 783 d), (d, oW), (sl, oS), (s2, o2), (s12, o12), (lt, oL), (en, oE), (a3, oA3), (a1, oA1)] (P_put3_sp w x d sl s2 s12 lt en oS) := by
  rcases h with h | h | h
  · exact (put3E w x d sl s2 s12 lt en a3 a1 oW oS o2 o12 oL oE oA3 oA1 h t3 t4).mono fun v nl ⟨b3, b1, p1, p2, p3, p4, p5, p6, p7, q, e⟩ => ⟨b3, b1, p1, p2, p3, p4, p5, p6, p7, .inl q, e⟩
  · exact (put3TO w x d sl s2 s12 lt en a3 a1 oW oS o2 o12 oL oE oA3 oA1 h t3 t4).mono fun v nl ⟨b3, b1, p1, p2, p3, p4, p5, p6, p7, q, e⟩ => ⟨b3, b1, p1, p2, p3, p4, p5, p6, p7, .inr q, e⟩
  · exact (put3O w x d sl s2 s12 lt en a3 a1 oW oS o2 o12 oL oE oA3 oA1 h t3 t4).mono fun v nl ⟨b3, b1, p1, p2, p3, p4, p5, p6, p7, q, e⟩ => ⟨b3, b1, p1, p2, p3, p4, p5, p6, p7, .inr q, e⟩
inductive P_put1_sp (w : World) (x : Addr) (d : Addr) (sl : Addr) (s2 : Addr) (s12 : Addr) (lt : Addr) (en : Addr) (oS : Obj) (v : Value) (nl : List (Addr × Obj)) : Prop where
  | mk (a3 : _) (a1 : _) (oW : _) (o2 : _) (o12 : _) (oL : _) (oE : _) (oA3 : _) (oA1 : _) (hh1 : WTO w x d sl s2 s12 lt en a3 a1 oW oS o2 o12 oL oE oA3 oA1) (hh2 : nl = [(x, instObj 783 d), (d, oW), (sl, oS), (s2, o2), (s12, o12), (lt, oL), (en, oE), (a3, oA3), (a1, oA1)]) : P_put1_sp w x d sl s2 s12 lt en oS v nl
theorem put1_sp (w : World) (x d sl s2 s12 lt en a3 a1 : Addr) (oW oS o2 o12 oL oE oA3 oA1 : Obj) (h : WMid w x d sl s2 s12 lt en a3 a1 oW oS o2 o12 oL oE oA3 oA1) (t3 t4 : Tok) :
    Sp w 870 4700 740 [.ref x, .int 1 t3, .int 60 t4] [(x, instObj 783 d), (d, oW), (sl, oS), (s2, o2), (s12, o12), (lt, oL), (en, oE), (a3, oA3), (a1, oA1)] (P_put1_sp w x d sl s2 s12 lt en oS) := by
  rcases h with h | h
  · exact (put1T w x d sl s2 s12 lt en a3 a1 oW oS o2 o12 oL oE oA3 oA1 h t3 t4).mono fun v nl ⟨b3, b1, p1, p2, p3, p4, p5, p6, p7, q, e⟩ => ⟨b3, b1, p1, p2, p3, p4, p5, p6, p7, q, e⟩
  · exact (put1OT w x d sl s2 s12 lt en a3 a1 oW oS o2 o12 oL oE oA3 oA1 h t3 t4).mono fun v nl ⟨b3, b1, p1, p2, p3, p4, p5, p6, p7, q, e⟩ => ⟨b3, b1, p1, p2, p3, p4, p5, p6, p7, q, e⟩
end Mine
end PartC5e
section SecR
open PySem PySem.W PySem.Calls PyProof.Rows Mine
set_option hygiene false in
local macro_rules | `(tactic| walk_at "getMethod ref") => `(tactic| (k_here; (with_reducible refine gd3 ?_); k_dflt (refine getMethod_extend (by k_asm) (by k_mem) ?_)))
set_option hygiene false in
local macro_rules | `(tactic| walk_at "call builtin:len") => `(tactic| (k_here; (with_reducible refine gd4 ?_); k_dflt ((refine len_ba (by k_asm) (by k_mem) (by omega) ?_); intro _ _)))
set_option hygiene false in
local macro_rules | `(tactic| walk_at "subscriptTail") => `(tactic| (k_here; (with_reducible refine gd5 ?_); (with_reducible rename Fr _ _ _ _ => F'); (with_reducible rename News _ _ _ _ => N'); k_dflt ((refine slice_ba (s := ⟨_, _, _, _, _⟩) F' N' (by k_mem) (by constructor) (by constructor) (by omega) ?_); intro D' h' F' N' l1; (try k_lt l1); (try k_sweep))))
set_option hygiene false in
local macro_rules | `(tactic| walk_at "subscriptTail") => `(tactic| (k_here; (with_reducible refine gd6 ?_); (with_reducible rename Fr _ _ _ _ => F'); (with_reducible rename News _ _ _ _ => N'); k_dflt ((refine slice_by (s := ⟨_, _, _, _, _⟩) F' N' (by constructor) (by constructor) (by omega) (by first | exact picked_from0 | exact picked_all (by omega)) ?_); intro h' _ _ F' N')))
set_option hygiene false in
local macro_rules | `(tactic| walk_at "call type:bytes") => `(tactic| (k_here; (with_reducible refine gd7 ?_); k_dflt (refine call_bytes ?_)))
set_option hygiene false in
local macro_rules | `(tactic| walk_at "call type:bytes") => `(tactic| (k_here; (with_reducible refine gd1 ?_); k_dflt ((refine bytes_ba (by k_asm) (by k_mem) (by omega) ?_); intro _ _)))
theorem Mine.flush11 : True := by first | (w_top off; walk1) | trivial
section PartR3
theorem Mine.flush12 : True := by first | (w_top off; walk1) | trivial
open PySem PySem.W PySem.Calls PyProof.Rows
set_option Elab.async false
set_option maxRecDepth 100000
set_option maxHeartbeats 4000000
set_option rowWalk.seconds 0
set_option pp.maxSteps 6000
namespace Mine
theorem sh_le {mss R X : Int} (h : (if (if R < mss then R else mss) > 1 then if R < mss then R else mss else 1) ≤ X) : max 1 (min mss R) ≤ X := by rwa [mn_ite, mx_ite] at h
theorem sh_lt {mss R X : Int} (h : ¬(if (if R < mss then R else mss) > 1 then if R < mss then R else mss else 1) ≤ X) : X < max 1 (min mss R) := by rw [mn_ite, mx_ite] at h; exact Int.not_le.mp h

theorem Sp.useP {w : World} {dp un : Nat} {f : Addr} {vs : List Value} {pre all rest : List (Addr × Obj)} {post : Value → List (Addr × Obj) → Prop} {A₀ A : Around} {base h₀ : Heap} {outer : List Env} {env : Env} {L : Addr} {m : Str → Option Value}
    {mean : ExcName → Option Value} {mg mb : Str → Option Value} {s : Shared} {Q E : Value → Shared → Prop}
    (B : Below A₀ base outer h₀) (F : Fr h₀ L s.heap m) (X : (K w.params).In h₀) (N : News h₀ L s.heap all) (T : Top qv (looseW qv loose) mean mg mb h₀)
    (hA : A.frames = some (env :: outer)) (hf : env.frame = some L) (hke : env.scope.kind = .function) (hh : A.handled = none)
    (P : Pick pre all rest) (ND : (all.map (·.1)).Nodup) (C : Sp w dp un f vs pre post) (hd : A.depth ≤ dp) (hu : A.units ≤ un)
    (ret : ∀ v news' h' tk', post v news' → Fr h₀ L h' m → News h₀ L h' (news' ++ rest) → ((news' ++ rest).map (·.1)).Nodup → Q v { s with heap := h', toks := tk' }) :
    wpAny (model pp w) A (call (.ref f) vs) Q E s := C.use B F X N T hA hf hke hh hd hu P ND ret
theorem SpG.useP {w : World} {dp un : Nat} {f : Addr} {vs : List Value} {pre all rest : List (Addr × Obj)} {post : Value → List (Addr × Obj) → Prop} {A₀ A : Around} {base h₀ : Heap} {outer : List Env} {env : Env} {L : Addr} {m : Str → Option Value}
    {mean : ExcName → Option Value} {mg mb : Str → Option Value} {s : Shared} {Q E : Value → Shared → Prop}
    (B : Below A₀ base outer h₀) (F : Fr h₀ L s.heap m) (X : (K w.params).In h₀) (N : News h₀ L s.heap all) (T : Top qv (looseW qv loose) mean mg mb h₀)
    (hA : A.frames = some (env :: outer)) (hf : env.frame = some L) (hke : env.scope.kind = .function) (hh : A.handled = none)
    (P : Pick pre all rest) (ND : (all.map (·.1)).Nodup) (C : SpG w dp un f vs pre post) (hd : A.depth ≤ dp) (hu : A.units ≤ un)
    (ret : ∀ v news' h' tk', post v news' → Fr h₀ L h' m → News h₀ L h' (news' ++ rest) → ((news' ++ rest).map (·.1)).Nodup → Q v { s with heap := h', toks := tk' }) :
    wpG (model pp w) A (call (.ref f) vs) Q E s := C.use B F X N T hA hf hke hh hd hu P ND ret
inductive P_dist0_sp (v : Value) (nl : List (Addr × Obj)) : Prop where
  | mk (t : _) (hh1 : v = .int 0 t) (hh2 : nl = []) : P_dist0_sp v nl
theorem dist0_sp (w : World) (a ring : Int) (t1 t2 t3 : Tok) (hr : ring = 256 ∨ ring = 4294967296) :
    Sp w 800 4000 176 [.int a t1, .int a t2, .int ring t3] [] P_dist0_sp := by
  have e : Int.fmod (a - a) ring = 0 := by rw [Int.sub_self]; exact Int.zero_fmod ring
  refine Sp.enter (binds := [("a", .int a t1), ("b", .int a t2), ("ring", .int ring t3)]) (by k_is) (by k_is) (by decide) (fun s X => BindsTo.of_eq rfl) (locs rfl) ?_
  intro env outer base g mean mg mb L' h₁ s Q E B X T F N ND ret
  obtain r0 : ring ≠ 0 := by omega
  revert hr e B X T F N ND ret r0
  revert w a ring t1 t2 t3 env outer base g mean mg mb L' h₁ s Q E
  (iterate 1 (refine dum ?_))
  refine eps19 (by repeat' (first | refine @instNonemptyProd _ _ ?_ ?_ | infer_instance | exact neW | exact neS)) ?_
  intro hr e B X T F N ND ret r0
  have ND9 := ND
  have ret2 := fun v nl h tk m a b c d => ret v nl h tk m c a b d
  (repeat' (first | (k_unfold; (try dsimp only)) | (k_end; wrow_close) | ((with_reducible show wpAny _ _ (eval (Expr.Name _ _) _) _ _ _); first | ((k_here; (with_reducible first | (refine nmL (by first | exact nf176.1 | exact nf176.2.1 | exact nf176.2.2.1) (by k_asm) (by k_dflt (exact Eq.refl (some _))) ?_) | (refine nmL (by first | exact nf969.1) (by k_asm) (by k_dflt (exact Eq.refl (some _))) ?_) | (refine nmK nf969.2.1 (gk_plus _) (by k_asm) (by k_asm) (by k_asm) ?_) | (refine nmB nf969.2.2.1 (bk_len _) (by k_asm) (by k_asm) (by k_asm) ?_) | (refine nmL (by first | exact nf976.1 | exact nf976.2.1) (by k_asm) (by k_dflt (exact Eq.refl (some _))) ?_) | (refine nmK nf976.2.2.1 (gk_is_before _) (by k_asm) (by k_asm) (by k_asm) ?_) | (refine nmK nf976.2.2.2.1 (gk_distance _) (by k_asm) (by k_asm) (by k_asm) ?_) | (refine nmB nf976.2.2.2.2.1 (bk_max _) (by k_asm) (by k_asm) (by k_asm) ?_) | (refine nmB nf976.2.2.2.2.2.1 (bk_min _) (by k_asm) (by k_asm) (by k_asm) ?_) | (refine nmL (by first | exact nf983.1) (by k_asm) (by k_dflt (exact Eq.refl (some _))) ?_) | (refine nmK nf983.2.1 (gk_is_before _) (by k_asm) (by k_asm) (by k_asm) ?_) | (refine nmK nf983.2.2.1 (gk_distance _) (by k_asm) (by k_asm) (by k_asm) ?_) | (refine nmL (by first | exact nf990.1) (by k_asm) (by k_dflt (exact Eq.refl (some _))) ?_))))) | walk1 | (dsimp only; walk1) | (leave1; (try dsimp only)) | fail "no step"))
  all_goals (try dsimp only)
  all_goals (try k_unfold)
  all_goals (try dsimp only)
  all_goals (try k_unfold)
  all_goals (try dsimp only)
  all_goals (try k_unfold)
  all_goals (try dsimp only)
  all_goals (rw [e])
  all_goals (refine ret2 _ _ _ _ _ (by assumption) (by assumption) ⟨_, rfl, rfl⟩ ND)

structure RcZ where
  k1 : Tok
  k2 : Tok
  k3 : Tok
  k4 : Tok
  k5 : Tok
  k6 : Tok
  k7 : Tok
  k8 : Tok
  k9 : Tok
  k0 : Tok
  t1 : Tok
  t2 : Tok
  t3 : Tok
  t4 : Tok
  t5 : Tok
theorem neRcZ : Nonempty RcZ := ⟨by constructor <;> exact default⟩
abbrev rcO (w : World) (z : RcZ) (ring room mss nx : Int) (S am : Addr) (edge : Int) : Obj :=
  dictO [de w "ring" z.k1 (.int ring z.t1), de w "room" z.k2 (.int room z.t2), de w "mss" z.k3 (.int mss z.t3), de w "next" z.k4 (.int nx z.t4), de w "ready" z.k5 (.ref S), de w "assembly" z.k6 (.ref am), de w "told_edge" z.k7 (.int edge z.t5), de w "fin_at" z.k8 .none, de w "has_fin" z.k9 (.bool false), de w "urgent_at" z.k0 .none] 10
inductive RcD (w : World) (ring : Int) (room : Int) (mss : Int) (N : Int) (E : Int) (S : Addr) (am : Addr) (o : Obj) : Prop where
  | mk (z : RcZ) (hh1 : o = rcO w z ring room mss (Int.fmod N ring) S am (Int.fmod E ring)) : RcD w ring room mss N E S am o
theorem RcD.of {w : World} {ring : Int} {room : Int} {mss : Int} {N : Int} {E : Int} {S : Addr} {am : Addr} {o : Obj} {k1 : Tok} {k2 : Tok} {k3 : Tok} {k4 : Tok} {k5 : Tok} {k6 : Tok} {k7 : Tok} {k8 : Tok} {k9 : Tok} {k0 : Tok} {t1 : Tok} {t2 : Tok} {t3 : Tok} {t4 : Tok} {t5 : Tok} (e : o =  dictO [de w "ring" k1 (.int ring t1), de w "room" k2 (.int room t2), de w "mss" k3 (.int mss t3), de w "next" k4 (.int (Int.fmod N ring) t4), de w "ready" k5 (.ref S), de w "assembly" k6 (.ref am), de w "told_edge" k7 (.int (Int.fmod E ring) t5), de w "fin_at" k8 .none, de w "has_fin" k9 (.bool false), de w "urgent_at" k0 .none] 10) : RcD w ring room mss N E S am o :=
  ⟨⟨k1, k2, k3, k4, k5, k6, k7, k8, k9, k0, t1, t2, t3, t4, t5⟩, e⟩
abbrev asO (w : World) (k1 k2 t1 : Tok) (ring : Int) (pl : Addr) : Obj := dictO [de w "ring" k1 (.int ring t1), de w "parts" k2 (.ref pl)] 2
inductive AsD (w : World) (ring : Int) (pl : Addr) (o : Obj) : Prop where
  | mk (k1 : _) (k2 : _) (t1 : _) (hh1 : o = dictO [de w "ring" k1 (.int ring t1), de w "parts" k2 (.ref pl)] 2) : AsD w ring pl o
inductive P_free_sp (x : Addr) (d : Addr) (S : Addr) (oR : Obj) (b : Array UInt8) (ring : Int) (room : Int) (p : Int) (v : Value) (nl : List (Addr × Obj)) : Prop where
  | mk (t : _) (hh1 : v = .int (Int.fmod (p + (room - b.size)) ring) t) (hh2 : nl = [(x, instObj 1077 d), (d, oR), (S, baO b)]) : P_free_sp x d S oR b ring room p v nl
theorem free_sp (w : World) (x d S am : Addr) (oR : Obj) (b : Array UInt8) (ring room mss p e : Int) (h : RcD w ring room mss p e S am oR) (hr : ring = 256 ∨ ring = 4294967296) (h0 : p ≤ e) (h1 : e ≤ p + (room - b.size)) (h2 : 2 * room < ring) (h3 : 8 ≤ room) (h3' : room ≤ 70000) (h4 : 1 ≤ mss) (h5 : mss ≤ 66000) :
    Sp w 770 3850 969 [.ref x] [(x, instObj 1077 d), (d, oR), (S, baO b)] (P_free_sp x d S oR b ring room p) := by
  obtain ⟨k1Z, rfl⟩ := h
  refine Sp.enter (binds := [("self", .ref x)]) (by k_is) (by k_is) (by decide) (fun s X => BindsTo.of_eq rfl) (locs rfl) ?_
  intro env outer base g mean mg mb L' h₁ s Q E B X T F N ND ret
  obtain ⟨n_x_d, n_x_S, n_d_S⟩ := nn3 ND
  obtain r0 : ring ≠ 0 := by omega
  revert hr h0 h1 h2 h3 h3' h4 h5 B X T F N ND ret n_x_d n_x_S n_d_S r0
  revert w x d S am b ring room mss p e k1Z env outer base g mean mg mb L' h₁ s Q E
  refine eps24 (by repeat' (first | refine @instNonemptyProd _ _ ?_ ?_ | infer_instance | exact neW | exact neS | exact neRcZ)) ?_
  intro hr h0 h1 h2 h3 h3' h4 h5 B X T F N ND ret n_x_d n_x_S n_d_S r0
  have ND9 := ND
  have ret2 := fun v nl h tk m a b c d => ret v nl h tk m c a b d
  (repeat' (first | (k_unfold; (try dsimp only)) | (k_end; wrow_close) | ((with_reducible show wpAny _ _ (eval (Expr.Name _ _) _) _ _ _); first | ((k_here; (with_reducible first | (refine nmL (by first | exact nf176.1 | exact nf176.2.1 | exact nf176.2.2.1) (by k_asm) (by k_dflt (exact Eq.refl (some _))) ?_) | (refine nmL (by first | exact nf969.1) (by k_asm) (by k_dflt (exact Eq.refl (some _))) ?_) | (refine nmK nf969.2.1 (gk_plus _) (by k_asm) (by k_asm) (by k_asm) ?_) | (refine nmB nf969.2.2.1 (bk_len _) (by k_asm) (by k_asm) (by k_asm) ?_) | (refine nmL (by first | exact nf976.1 | exact nf976.2.1) (by k_asm) (by k_dflt (exact Eq.refl (some _))) ?_) | (refine nmK nf976.2.2.1 (gk_is_before _) (by k_asm) (by k_asm) (by k_asm) ?_) | (refine nmK nf976.2.2.2.1 (gk_distance _) (by k_asm) (by k_asm) (by k_asm) ?_) | (refine nmB nf976.2.2.2.2.1 (bk_max _) (by k_asm) (by k_asm) (by k_asm) ?_) | (refine nmB nf976.2.2.2.2.2.1 (bk_min _) (by k_asm) (by k_asm) (by k_asm) ?_) | (refine nmL (by first | exact nf983.1) (by k_asm) (by k_dflt (exact Eq.refl (some _))) ?_) | (refine nmK nf983.2.1 (gk_is_before _) (by k_asm) (by k_asm) (by k_asm) ?_) | (refine nmK nf983.2.2.1 (gk_distance _) (by k_asm) (by k_asm) (by k_asm) ?_) | (refine nmL (by first | exact nf990.1) (by k_asm) (by k_dflt (exact Eq.refl (some _))) ?_))))) | ((with_reducible show wpAny _ _ (call (Value.ref _) _) _ _ _); first | (((with_reducible show wpAny _ _ (call (Value.ref 169) _) _ _ _); k_dflt (first | ((refine Sp.use (plus_sp _ _ _ _ _ _ _ ?a1) (by k_asm) (by k_asm) (by k_asm) (by k_asm) (by k_asm) rfl rfl rfl rfl (nb rfl) (nb rfl) (by ktr_rel) ?znd ?_; (case znd => k_allIn); (case a1 => kaf_pre); k_whole); intro v9 nl9 h9 tk9 P9; obtain ⟨t9, rfl, rfl⟩ := P9; intro F9 N9 ND9; dsimp only [List.cons_append, List.nil_append] at N9 ND9; (try k_sweep); (try dsimp only)))))) | walk1 | (dsimp only; walk1) | (leave1; (try dsimp only)) | fail "no step"))
  all_goals (try dsimp only)
  all_goals (try k_unfold)
  all_goals (try dsimp only)
  all_goals (try k_unfold)
  all_goals (try dsimp only)
  all_goals (try k_unfold)
  all_goals (try dsimp only)
  all_goals (try (dsimp only))
  all_goals (with_reducible rename Fr _ _ _ _ => hf)
  all_goals (with_reducible rename News _ _ _ _ => hh)
  all_goals (refine ret2 _ _ _ _ _ hf hh ⟨_, rfl, rfl⟩ ND)
inductive P_told_sp (x : Addr) (d : Addr) (S : Addr) (oR : Obj) (b : Array UInt8) (p : Int) (e : Int) (v : Value) (nl : List (Addr × Obj)) : Prop where
  | mk (t : _) (hh1 : v = .int (e - p) t) (hh2 : nl = [(x, instObj 1077 d), (d, oR), (S, baO b)]) : P_told_sp x d S oR b p e v nl
theorem told_sp (w : World) (x d S am : Addr) (oR : Obj) (b : Array UInt8) (ring room mss p e : Int) (h : RcD w ring room mss p e S am oR) (hr : ring = 256 ∨ ring = 4294967296) (h0 : p ≤ e) (h1 : e ≤ p + (room - b.size)) (h2 : 2 * room < ring) (h3 : 8 ≤ room) (h3' : room ≤ 70000) (h4 : 1 ≤ mss) (h5 : mss ≤ 66000) :
    Sp w 770 3850 983 [.ref x] [(x, instObj 1077 d), (d, oR), (S, baO b)] (P_told_sp x d S oR b p e) := by
  obtain ⟨k1Z, rfl⟩ := h
  refine Sp.enter (binds := [("self", .ref x)]) (by k_is) (by k_is) (by decide) (fun s X => BindsTo.of_eq rfl) (locs rfl) ?_
  intro env outer base g mean mg mb L' h₁ s Q E B X T F N ND ret
  obtain ⟨n_x_d, n_x_S, n_d_S⟩ := nn3 ND
  obtain r0 : ring ≠ 0 := by omega
  revert hr h0 h1 h2 h3 h3' h4 h5 B X T F N ND ret n_x_d n_x_S n_d_S r0
  revert w x d S am b ring room mss p e k1Z env outer base g mean mg mb L' h₁ s Q E
  refine eps24 (by repeat' (first | refine @instNonemptyProd _ _ ?_ ?_ | infer_instance | exact neW | exact neS | exact neRcZ)) ?_
  intro hr h0 h1 h2 h3 h3' h4 h5 B X T F N ND ret n_x_d n_x_S n_d_S r0
  have ND9 := ND
  have ret2 := fun v nl h tk m a b c d => ret v nl h tk m c a b d
  (repeat' (first | (k_unfold; (try dsimp only)) | (k_end; wrow_close) | ((with_reducible show wpAny _ _ (eval (Expr.Name _ _) _) _ _ _); first | ((k_here; (with_reducible first | (refine nmL (by first | exact nf176.1 | exact nf176.2.1 | exact nf176.2.2.1) (by k_asm) (by k_dflt (exact Eq.refl (some _))) ?_) | (refine nmL (by first | exact nf969.1) (by k_asm) (by k_dflt (exact Eq.refl (some _))) ?_) | (refine nmK nf969.2.1 (gk_plus _) (by k_asm) (by k_asm) (by k_asm) ?_) | (refine nmB nf969.2.2.1 (bk_len _) (by k_asm) (by k_asm) (by k_asm) ?_) | (refine nmL (by first | exact nf976.1 | exact nf976.2.1) (by k_asm) (by k_dflt (exact Eq.refl (some _))) ?_) | (refine nmK nf976.2.2.1 (gk_is_before _) (by k_asm) (by k_asm) (by k_asm) ?_) | (refine nmK nf976.2.2.2.1 (gk_distance _) (by k_asm) (by k_asm) (by k_asm) ?_) | (refine nmB nf976.2.2.2.2.1 (bk_max _) (by k_asm) (by k_asm) (by k_asm) ?_) | (refine nmB nf976.2.2.2.2.2.1 (bk_min _) (by k_asm) (by k_asm) (by k_asm) ?_) | (refine nmL (by first | exact nf983.1) (by k_asm) (by k_dflt (exact Eq.refl (some _))) ?_) | (refine nmK nf983.2.1 (gk_is_before _) (by k_asm) (by k_asm) (by k_asm) ?_) | (refine nmK nf983.2.2.1 (gk_distance _) (by k_asm) (by k_asm) (by k_asm) ?_) | (refine nmL (by first | exact nf990.1) (by k_asm) (by k_dflt (exact Eq.refl (some _))) ?_))))) | ((with_reducible show wpAny _ _ (call (Value.ref _) _) _ _ _); first | (((with_reducible show wpAny _ _ (call (Value.ref 183) _) _ _ _); k_dflt (first | ((refine Sp.use (beforeF_sp _ _ _ _ _ _ _ ?a1 ?a2 ?a3) (by k_asm) (by k_asm) (by k_asm) (by k_asm) (by k_asm) rfl rfl rfl rfl (nb rfl) (nb rfl) (by ktr_rel) ?znd ?_; (case znd => k_allIn); (case a1 => kaf_pre); (case a2 => kaf_pre); (case a3 => kaf_pre); k_whole); intro v9 nl9 h9 tk9 P9; obtain ⟨rfl, rfl⟩ := P9; intro F9 N9 ND9; dsimp only [List.cons_append, List.nil_append] at N9 ND9; (try k_sweep); (try dsimp only))))) | (((with_reducible show wpAny _ _ (call (Value.ref 176) _) _ _ _); k_dflt (first | ((refine Sp.use (dist_sp _ _ _ _ _ _ _ ?a1 ?a2 ?a3) (by k_asm) (by k_asm) (by k_asm) (by k_asm) (by k_asm) rfl rfl rfl rfl (nb rfl) (nb rfl) (by ktr_rel) ?znd ?_; (case znd => k_allIn); (case a1 => kaf_pre); (case a2 => kaf_pre); (case a3 => kaf_pre); k_whole); intro v9 nl9 h9 tk9 P9; obtain ⟨t9, rfl, rfl⟩ := P9; intro F9 N9 ND9; dsimp only [List.cons_append, List.nil_append] at N9 ND9; (try k_sweep); (try dsimp only)))))) | walk1 | (dsimp only; walk1) | (leave1; (try dsimp only)) | fail "no step"))
  all_goals (try dsimp only)
  all_goals (try k_unfold)
  all_goals (try dsimp only)
  all_goals (try k_unfold)
  all_goals (try dsimp only)
  all_goals (try k_unfold)
  all_goals (try dsimp only)
  all_goals (try (dsimp only))
  all_goals (with_reducible rename Fr _ _ _ _ => hf)
  all_goals (with_reducible rename News _ _ _ _ => hh)
  all_goals (refine ret2 _ _ _ _ _ hf hh ⟨_, rfl, rfl⟩ ND)
inductive P_should_sp (x : Addr) (d : Addr) (S : Addr) (oR : Obj) (b : Array UInt8) (room : Int) (mss : Int) (p : Int) (e : Int) (v : Value) (nl : List (Addr × Obj)) : Prop where
  | mk (r : Bool) (hh1 : v = .bool r) (hh2 : (r = true → max 1 (min mss (Int.fdiv room 2)) ≤ p + (room - b.size) - e)) (hh3 : (r = false → p + (room - b.size) - e < max 1 (min mss (Int.fdiv room 2)))) (hh4 : nl = [(x, instObj 1077 d), (d, oR), (S, baO b)]) : P_should_sp x d S oR b room mss p e v nl
theorem should_sp (w : World) (x d S am : Addr) (oR : Obj) (b : Array UInt8) (ring room mss p e : Int) (h : RcD w ring room mss p e S am oR) (hr : ring = 256 ∨ ring = 4294967296) (h0 : p ≤ e) (h1 : e ≤ p + (room - b.size)) (h2 : 2 * room < ring) (h3 : 8 ≤ room) (h3' : room ≤ 70000) (h4 : 1 ≤ mss) (h5 : mss ≤ 66000) (tm : Tok) :
    Sp w 765 3820 976 [.ref x, .int mss tm] [(x, instObj 1077 d), (d, oR), (S, baO b)] (P_should_sp x d S oR b room mss p e) := by
  obtain ⟨k1Z, rfl⟩ := h
  refine Sp.enter (binds := [("self", .ref x), ("mss", .int mss tm)]) (by k_is) (by k_is) (by decide) (fun s X => BindsTo.of_eq rfl) (locs rfl) ?_
  intro env outer base g mean mg mb L' h₁ s Q E B X T F N ND ret
  obtain ⟨n_x_d, n_x_S, n_d_S⟩ := nn3 ND
  obtain r0 : ring ≠ 0 := by omega
  rcases Int.lt_or_le e (p + (room - b.size)) with hc | hc
  all_goals (first | (revert hr h0 h1 h2 h3 h3' h4 h5 B X T F N ND ret n_x_d n_x_S n_d_S r0 hc; revert w x d S am b ring room mss p e tm k1Z env outer base g mean mg mb L' h₁ s Q E; (iterate 3 (refine dum ?_)); refine eps28 (by repeat' (first | refine @instNonemptyProd _ _ ?_ ?_ | infer_instance | exact neW | exact neS | exact neRcZ)) ?_; intro hr h0 h1 h2 h3 h3' h4 h5 B X T F N ND ret n_x_d n_x_S n_d_S r0 hc))
  all_goals have ND9 := ND
  all_goals have ret2 := fun v nl h tk m a b c d => ret v nl h tk m c a b d
  (repeat' (first | (k_unfold; (try dsimp only)) | (k_end; wrow_close) | ((with_reducible show wpAny _ _ (eval (Expr.Name _ _) _) _ _ _); first | ((k_here; (with_reducible first | (refine nmL (by first | exact nf176.1 | exact nf176.2.1 | exact nf176.2.2.1) (by k_asm) (by k_dflt (exact Eq.refl (some _))) ?_) | (refine nmL (by first | exact nf969.1) (by k_asm) (by k_dflt (exact Eq.refl (some _))) ?_) | (refine nmK nf969.2.1 (gk_plus _) (by k_asm) (by k_asm) (by k_asm) ?_) | (refine nmB nf969.2.2.1 (bk_len _) (by k_asm) (by k_asm) (by k_asm) ?_) | (refine nmL (by first | exact nf976.1 | exact nf976.2.1) (by k_asm) (by k_dflt (exact Eq.refl (some _))) ?_) | (refine nmK nf976.2.2.1 (gk_is_before _) (by k_asm) (by k_asm) (by k_asm) ?_) | (refine nmK nf976.2.2.2.1 (gk_distance _) (by k_asm) (by k_asm) (by k_asm) ?_) | (refine nmB nf976.2.2.2.2.1 (bk_max _) (by k_asm) (by k_asm) (by k_asm) ?_) | (refine nmB nf976.2.2.2.2.2.1 (bk_min _) (by k_asm) (by k_asm) (by k_asm) ?_) | (refine nmL (by first | exact nf983.1) (by k_asm) (by k_dflt (exact Eq.refl (some _))) ?_) | (refine nmK nf983.2.1 (gk_is_before _) (by k_asm) (by k_asm) (by k_asm) ?_) | (refine nmK nf983.2.2.1 (gk_distance _) (by k_asm) (by k_asm) (by k_asm) ?_) | (refine nmL (by first | exact nf990.1) (by k_asm) (by k_dflt (exact Eq.refl (some _))) ?_))))) | ((with_reducible show wpAny _ _ (call (Value.ref _) _) _ _ _); first | (((with_reducible show wpAny _ _ (call (Value.ref 969) _) _ _ _); k_dflt (first | ((refine Sp.useP (by k_asm) (by k_asm) (by k_asm) (by k_asm) (by k_asm) rfl rfl rfl rfl (by ktr_rel) ?znd (free_sp _ _ _ _ _ _ _ _ _ _ _ _ (by exact (RcD.of rfl)) ?a1 ?a2 ?a3 ?a4 ?a5 ?a6 ?a7 ?a8) (nb rfl) (nb rfl) ?_; (case znd => k_allIn); (case a1 => kaf_pre); (case a2 => kaf_pre); (case a3 => kaf_pre); (case a4 => kaf_pre); (case a5 => kaf_pre); (case a6 => kaf_pre); (case a7 => kaf_pre); (case a8 => kaf_pre); k_whole); intro v9 nl9 h9 tk9 P9; obtain ⟨t9, rfl, rfl⟩ := P9; intro F9 N9 ND9; dsimp only [List.cons_append, List.nil_append] at N9 ND9; (try k_sweep); (try dsimp only))))) | (((with_reducible show wpAny _ _ (call (Value.ref 183) _) _ _ _); k_dflt (first | ((refine Sp.use (beforeT_sp _ _ _ _ _ _ _ ?a1 ?a2 ?a3) (by k_asm) (by k_asm) (by k_asm) (by k_asm) (by k_asm) rfl rfl rfl rfl (nb rfl) (nb rfl) (by ktr_rel) ?znd ?_; (case znd => k_allIn); (case a1 => kaf_pre); (case a2 => kaf_pre); (case a3 => kaf_pre); k_whole); intro v9 nl9 h9 tk9 P9; obtain ⟨rfl, rfl⟩ := P9; intro F9 N9 ND9; dsimp only [List.cons_append, List.nil_append] at N9 ND9; (try k_sweep); (try dsimp only))))) | (((with_reducible show wpAny _ _ (call (Value.ref 183) _) _ _ _); k_dflt (first | ((refine Sp.use (beforeF_sp _ _ _ _ _ _ _ ?a1 ?a2 ?a3) (by k_asm) (by k_asm) (by k_asm) (by k_asm) (by k_asm) rfl rfl rfl rfl (nb rfl) (nb rfl) (by ktr_rel) ?znd ?_; (case znd => k_allIn); (case a1 => kaf_pre); (case a2 => kaf_pre); (case a3 => kaf_pre); k_whole); intro v9 nl9 h9 tk9 P9; obtain ⟨rfl, rfl⟩ := P9; intro F9 N9 ND9; dsimp only [List.cons_append, List.nil_append] at N9 ND9; (try k_sweep); (try dsimp only))))) | (((with_reducible show wpAny _ _ (call (Value.ref 176) _) _ _ _); k_dflt (first | ((refine Sp.use (dist_sp _ _ _ _ _ _ _ ?a1 ?a2 ?a3) (by k_asm) (by k_asm) (by k_asm) (by k_asm) (by k_asm) rfl rfl rfl rfl (nb rfl) (nb rfl) (by ktr_rel) ?znd ?_; (case znd => k_allIn); (case a1 => kaf_pre); (case a2 => kaf_pre); (case a3 => kaf_pre); k_whole); intro v9 nl9 h9 tk9 P9; obtain ⟨t9, rfl, rfl⟩ := P9; intro F9 N9 ND9; dsimp only [List.cons_append, List.nil_append] at N9 ND9; (try k_sweep); (try dsimp only)))))) | walk1 | (dsimp only; walk1) | (leave1; (try dsimp only)) | fail "no step"))
  all_goals (try dsimp only)
  all_goals (try k_unfold)
  all_goals (try dsimp only)
  all_goals (try k_unfold)
  all_goals (try dsimp only)
  all_goals (try k_unfold)
  all_goals (try dsimp only)
  all_goals (try (dsimp only))
  all_goals (with_reducible rename Fr _ _ _ _ => hf)
  all_goals (with_reducible rename News _ _ _ _ => hh)
  all_goals first
    | (refine ret2 _ _ _ _ _ hf hh ⟨_, rfl, ?_, ?_, rfl⟩ ND <;> (intro q; (try simp only [decide_eq_true_eq, decide_eq_false_iff_not] at q); first | exact sh_le (by assumption) | exact sh_lt (by assumption) | omega | (cases q; done)))
    | trace_state
inductive P_window_sp (w : World) (x : Addr) (d : Addr) (S : Addr) (am : Addr) (b : Array UInt8) (ring : Int) (room : Int) (mss : Int) (p : Int) (e : Int) (v : Value) (nl : List (Addr × Obj)) : Prop where
  | mk (e' : _) (oR' : _) (t : _) (hh1 : RcD w ring room mss p e' S am oR') (hh2 : v = .int (e' - p) t) (hh3 : (max 1 (min mss (Int.fdiv room 2)) ≤ p + (room - b.size) - e → e' = p + (room - b.size))) (hh4 : (p + (room - b.size) - e < max 1 (min mss (Int.fdiv room 2)) → e' = e)) (hh5 : nl = [(x, instObj 1077 d), (d, oR'), (S, baO b)]) : P_window_sp w x d S am b ring room mss p e v nl
theorem window_sp (w : World) (x d S am : Addr) (oR : Obj) (b : Array UInt8) (ring room mss p e : Int) (h : RcD w ring room mss p e S am oR) (hr : ring = 256 ∨ ring = 4294967296) (h0 : p ≤ e) (h1 : e ≤ p + (room - b.size)) (h2 : 2 * room < ring) (h3 : 8 ≤ room) (h3' : room ≤ 70000) (h4 : 1 ≤ mss) (h5 : mss ≤ 66000) :
    Sp w 760 3800 990 [.ref x] [(x, instObj 1077 d), (d, oR), (S, baO b)] (P_window_sp w x d S am b ring room mss p e) := by
  obtain ⟨k1Z, rfl⟩ := h
  refine Sp.enter (binds := [("self", .ref x)]) (by k_is) (by k_is) (by decide) (fun s X => BindsTo.of_eq rfl) (locs rfl) ?_
  intro env outer base g mean mg mb L' h₁ s Q E B X T F N ND ret
  obtain ⟨n_x_d, n_x_S, n_d_S⟩ := nn3 ND
  obtain r0 : ring ≠ 0 := by omega
  revert hr h0 h1 h2 h3 h3' h4 h5 B X T F N ND ret n_x_d n_x_S n_d_S r0
  revert w x d S am b ring room mss p e k1Z env outer base g mean mg mb L' h₁ s Q E
  refine eps24 (by repeat' (first | refine @instNonemptyProd _ _ ?_ ?_ | infer_instance | exact neW | exact neS | exact neRcZ)) ?_
  intro hr h0 h1 h2 h3 h3' h4 h5 B X T F N ND ret n_x_d n_x_S n_d_S r0
  have ND9 := ND
  have ret2 := fun v nl h tk m a b c d => ret v nl h tk m c a b d
  (repeat' (first | (k_unfold; (try dsimp only)) | (k_end; wrow_close) | ((with_reducible show wpAny _ _ (eval (Expr.Name _ _) _) _ _ _); first | ((k_here; (with_reducible first | (refine nmL (by first | exact nf176.1 | exact nf176.2.1 | exact nf176.2.2.1) (by k_asm) (by k_dflt (exact Eq.refl (some _))) ?_) | (refine nmL (by first | exact nf969.1) (by k_asm) (by k_dflt (exact Eq.refl (some _))) ?_) | (refine nmK nf969.2.1 (gk_plus _) (by k_asm) (by k_asm) (by k_asm) ?_) | (refine nmB nf969.2.2.1 (bk_len _) (by k_asm) (by k_asm) (by k_asm) ?_) | (refine nmL (by first | exact nf976.1 | exact nf976.2.1) (by k_asm) (by k_dflt (exact Eq.refl (some _))) ?_) | (refine nmK nf976.2.2.1 (gk_is_before _) (by k_asm) (by k_asm) (by k_asm) ?_) | (refine nmK nf976.2.2.2.1 (gk_distance _) (by k_asm) (by k_asm) (by k_asm) ?_) | (refine nmB nf976.2.2.2.2.1 (bk_max _) (by k_asm) (by k_asm) (by k_asm) ?_) | (refine nmB nf976.2.2.2.2.2.1 (bk_min _) (by k_asm) (by k_asm) (by k_asm) ?_) | (refine nmL (by first | exact nf983.1) (by k_asm) (by k_dflt (exact Eq.refl (some _))) ?_) | (refine nmK nf983.2.1 (gk_is_before _) (by k_asm) (by k_asm) (by k_asm) ?_) | (refine nmK nf983.2.2.1 (gk_distance _) (by k_asm) (by k_asm) (by k_asm) ?_) | (refine nmL (by first | exact nf990.1) (by k_asm) (by k_dflt (exact Eq.refl (some _))) ?_))))) | ((with_reducible show wpAny _ _ (call (Value.ref _) _) _ _ _); first | (((with_reducible show wpAny _ _ (call (Value.ref 976) _) _ _ _); k_dflt (first | ((refine Sp.useP (by k_asm) (by k_asm) (by k_asm) (by k_asm) (by k_asm) rfl rfl rfl rfl (by ktr_rel) ?znd (should_sp _ _ _ _ _ _ _ _ _ _ _ _ (by exact (RcD.of rfl)) ?a1 ?a2 ?a3 ?a4 ?a5 ?a6 ?a7 ?a8 _) (nb rfl) (nb rfl) ?_; (case znd => k_allIn); (case a1 => kaf_pre); (case a2 => kaf_pre); (case a3 => kaf_pre); (case a4 => kaf_pre); (case a5 => kaf_pre); (case a6 => kaf_pre); (case a7 => kaf_pre); (case a8 => kaf_pre); k_whole); intro v9 nl9 h9 tk9 P9; obtain ⟨r9, rfl, p91, p92, rfl⟩ := P9; intro F9 N9 ND9; dsimp only [List.cons_append, List.nil_append] at N9 ND9; (try k_sweep); (try dsimp only); (cases r9 <;> simp only [reduceCtorEq, forall_const, false_implies, true_implies] at p91 p92))))) | (((with_reducible show wpAny _ _ (call (Value.ref 983) _) _ _ _); k_dflt (first | ((refine Sp.useP (by k_asm) (by k_asm) (by k_asm) (by k_asm) (by k_asm) rfl rfl rfl rfl (by ktr_rel) ?znd (told_sp _ _ _ _ _ _ _ _ _ _ _ _ (by exact (RcD.of rfl)) ?a1 ?a2 ?a3 ?a4 ?a5 ?a6 ?a7 ?a8) (nb rfl) (nb rfl) ?_; (case znd => k_allIn); (case a1 => kaf_pre); (case a2 => kaf_pre); (case a3 => kaf_pre); (case a4 => kaf_pre); (case a5 => kaf_pre); (case a6 => kaf_pre); (case a7 => kaf_pre); (case a8 => kaf_pre); k_whole); intro v9 nl9 h9 tk9 P9; obtain ⟨t9, rfl, rfl⟩ := P9; intro F9 N9 ND9; dsimp only [List.cons_append, List.nil_append] at N9 ND9; (try k_sweep); (try dsimp only))))) | (((with_reducible show wpAny _ _ (call (Value.ref 969) _) _ _ _); k_dflt (first | ((refine Sp.useP (by k_asm) (by k_asm) (by k_asm) (by k_asm) (by k_asm) rfl rfl rfl rfl (by ktr_rel) ?znd (free_sp _ _ _ _ _ _ _ _ _ _ _ _ (by exact (RcD.of rfl)) ?a1 ?a2 ?a3 ?a4 ?a5 ?a6 ?a7 ?a8) (nb rfl) (nb rfl) ?_; (case znd => k_allIn); (case a1 => kaf_pre); (case a2 => kaf_pre); (case a3 => kaf_pre); (case a4 => kaf_pre); (case a5 => kaf_pre); (case a6 => kaf_pre); (case a7 => kaf_pre); (case a8 => kaf_pre); k_whole); intro v9 nl9 h9 tk9 P9; obtain ⟨t9, rfl, rfl⟩ := P9; intro F9 N9 ND9; dsimp only [List.cons_append, List.nil_append] at N9 ND9; (try k_sweep); (try dsimp only)))))) | walk1 | (dsimp only; walk1) | (leave1; (try dsimp only)) | fail "no step"))
  all_goals (try dsimp only)
  all_goals (try k_unfold)
  all_goals (try dsimp only)
  all_goals (try k_unfold)
  all_goals (try dsimp only)
  all_goals (try k_unfold)
  all_goals (try dsimp only)
  all_goals (try (dsimp only))
  all_goals (with_reducible rename Fr _ _ _ _ => hf)
  all_goals (with_reducible rename News _ _ _ _ => hh)
  all_goals first
    | (refine ret2 _ _ _ _ _ hf hh ⟨_, _, _, (RcD.of rfl), rfl, ?_, ?_, rfl⟩ ND <;> omega)
    | trace_state
end Mine
end PartR3
section PartR4
theorem Mine.flush13 : True := by first | (w_top off; walk1) | trivial
open PySem PySem.W PySem.Calls PyProof.Rows
set_option Elab.async false
set_option maxRecDepth 100000
set_option maxHeartbeats 4000000
set_option rowWalk.seconds 0
set_option pp.maxSteps 6000
namespace Mine
inductive P_read_sp (w : World) (x : Addr) (d : Addr) (am : Addr) (b : Array UInt8) (ring : Int) (room : Int) (mss : Int) (p : Int) (e : Int) (many : Int) (v : Value) (nl : List (Addr × Obj)) : Prop where
  | mk (S' : _) (b' : _) (c : _) (t : _) (oR' : _) (hh1 : v = .bytes c t) (hh2 : (c.size : Int) = many) (hh3 : (b'.size : Int) = b.size - many) (hh4 : RcD w ring room mss p e S' am oR') (hh5 : nl = [(x, instObj 1077 d), (d, oR'), (S', baO b')]) : P_read_sp w x d am b ring room mss p e many v nl
theorem read_sp (w : World) (x d S am : Addr) (oR : Obj) (b : Array UInt8) (ring room mss p e many : Int) (tm : Tok) (h : RcD w ring room mss p e S am oR) (h0 : 0 ≤ many) (h1 : many ≤ b.size) (h2 : b.size ≤ 70000) :
    Sp w 760 3800 1046 [.ref x, .int many tm] [(x, instObj 1077 d), (d, oR), (S, baO b)] (P_read_sp w x d am b ring room mss p e many) := by
  obtain ⟨k1Z, rfl⟩ := h
  refine Sp.enter (binds := [("self", .ref x), ("many", .int many tm)]) (by k_is) (by k_is) (by decide) (fun s X => BindsTo.of_eq rfl) (locs rfl) ?_
  intro env outer base g mean mg mb L' h₁ s Q E B X T F N ND ret
  obtain ⟨n_x_d, n_x_S, n_d_S⟩ := nn3 ND
  obtain pz := picked_to_size (b := b) h0 h1
  revert h0 h1 h2 B X T F N ND ret n_x_d n_x_S n_d_S pz
  revert w x d S am b ring room mss p e many tm k1Z env outer base g mean mg mb L' h₁ s Q E
  (iterate 2 (refine dum ?_))
  refine eps28 (by repeat' (first | refine @instNonemptyProd _ _ ?_ ?_ | infer_instance | exact neW | exact neS | exact neRcZ)) ?_
  intro h0 h1 h2 B X T F N ND ret n_x_d n_x_S n_d_S pz
  have ND9 := ND
  have ret2 := fun v nl h tk m a b c d => ret v nl h tk m c a b d
  (repeat' (first | (k_unfold; (try dsimp only)) | (k_end; wrow_close) | ((with_reducible show wpAny _ _ (eval (Expr.Name _ _) _) _ _ _); first | ((k_here; (with_reducible first | (refine nmL (by first | exact nf1046.1 | exact nf1046.2.1 | exact nf1046.2.2.1) (by k_asm) (by k_dflt (exact Eq.refl (some _))) ?_) | (refine nmB nf1046.2.2.2.1 (bk_bytes _) (by k_asm) (by k_asm) (by k_asm) ?_) | (refine nmB nf1046.2.2.2.2.1 (bk_len _) (by k_asm) (by k_asm) (by k_asm) ?_))))) | walk1 | (dsimp only; walk1) | (leave1; (try dsimp only)) | fail "no step"))
  all_goals (try dsimp only)
  all_goals (try k_unfold)
  all_goals (try dsimp only)
  all_goals (try k_unfold)
  all_goals (try dsimp only)
  all_goals (try k_unfold)
  all_goals (try dsimp only)
  all_goals (try (dsimp only))
  all_goals (with_reducible rename Fr _ _ _ _ => hf)
  all_goals (with_reducible rename News _ _ _ _ => hh)
  all_goals (refine ret2 _ _ _ _ _ hf (news_pick hh (by ktr_rel)) ⟨_, _, _, _, _, rfl, pz, ?_, (RcD.of rfl), rfl⟩ ?_)
  · rw [picked_from_size (by omega) (by omega)]; omega
  all_goals k_allIn
end Mine
end PartR4
section PartR5
theorem Mine.flush14 : True := by first | (w_top off; walk1) | trivial
open PySem PySem.W PySem.Calls PyProof.Rows
set_option Elab.async false
set_option maxRecDepth 100000
set_option maxHeartbeats 4000000
set_option rowWalk.seconds 0
set_option pp.maxSteps 6000
namespace Mine
inductive P_letin_sp (x : Addr) (d : Addr) (S : Addr) (oR : Obj) (b : Array UInt8) (c : Array UInt8) (v : Value) (nl : List (Addr × Obj)) : Prop where
  | mk (t : _) (hh1 : v = .bytes c t) (hh2 : nl = [(x, instObj 1077 d), (d, oR), (S, baO b)]) : P_letin_sp x d S oR b c v nl
theorem letin_sp (w : World) (x d S am : Addr) (oR : Obj) (b c : Array UInt8) (ring room mss p e : Int) (ts tc : Tok) (h : RcD w ring room mss p e S am oR) (hr : ring = 256 ∨ ring = 4294967296) (h0 : c.size ≤ e - p) (h1 : 2 * (e - p) < ring) (h2 : c.size ≤ 100) :
    Sp w 760 3800 1004 [.ref x, .int (Int.fmod p ring) ts, .bytes c tc] [(x, instObj 1077 d), (d, oR), (S, baO b)] (P_letin_sp x d S oR b c) := by
  obtain ⟨k1Z, rfl⟩ := h
  have hc : c = #[] ∧ c.size = 0 ∨ 1 ≤ c.size := by
    by_cases q : c.size = 0
    · exact .inl ⟨Array.eq_empty_of_size_eq_zero q, q⟩
    · exact .inr (by omega)
  refine Sp.enter (binds := [("self", .ref x), ("seq", .int (Int.fmod p ring) ts), ("octets", .bytes c tc)]) (by k_is) (by k_is) (by decide) (fun s X => BindsTo.of_eq rfl) (locs rfl) ?_
  intro env outer base g mean mg mb L' h₁ s Q E B X T F N ND ret
  obtain ⟨n_x_d, n_x_S, n_d_S⟩ := nn3 ND
  obtain r0 : ring ≠ 0 := by omega
  rcases hc with ⟨rfl, hc⟩ | hc
  rcases Int.lt_or_le p e with hp | hp
  all_goals (first | (revert hr h0 h1 h2 B X T F N ND ret n_x_d n_x_S n_d_S r0 hc; revert w x d S am b c ring room mss p e ts tc k1Z env outer base g mean mg mb L' h₁ s Q E; (iterate 1 (refine dum ?_)); refine eps28 (by repeat' (first | refine @instNonemptyProd _ _ ?_ ?_ | infer_instance | exact neW | exact neS | exact neRcZ)) ?_; intro hr h0 h1 h2 B X T F N ND ret n_x_d n_x_S n_d_S r0 hc) | (revert hr h1 B X T N ND n_x_d n_x_S n_d_S r0 h0 h2 F ret hc hp; revert w x d S am b ring room mss p e ts tc k1Z env outer base g mean mg mb L' h₁ s Q E; (iterate 2 (refine dum ?_)); refine eps28 (by repeat' (first | refine @instNonemptyProd _ _ ?_ ?_ | infer_instance | exact neW | exact neS | exact neRcZ)) ?_; intro hr h1 B X T N ND n_x_d n_x_S n_d_S r0 h0 h2 F ret hc hp))
  all_goals have ND9 := ND
  all_goals have ret2 := fun v nl h tk m a b c d => ret v nl h tk m c a b d
  (repeat' (first | (k_unfold; (try dsimp only)) | (k_end; wrow_close) | ((with_reducible show wpAny _ _ (eval (Expr.Name _ _) _) _ _ _); first | ((k_here; (with_reducible first | (refine nmL (by first | exact nf926.1 | exact nf926.2.1) (by k_asm) (by k_dflt (exact Eq.refl (some _))) ?_) | (refine nmL (by first | exact nf1004.1 | exact nf1004.2.1 | exact nf1004.2.2.1 | exact nf1004.2.2.2.1) (by k_asm) (by k_dflt (exact Eq.refl (some _))) ?_) | (refine nmK nf1004.2.2.2.2.1 (gk_is_before _) (by k_asm) (by k_asm) (by k_asm) ?_) | (refine nmK nf1004.2.2.2.2.2.1 (gk_distance _) (by k_asm) (by k_asm) (by k_asm) ?_) | (refine nmB nf1004.2.2.2.2.2.2.1 (bk_bytes _) (by k_asm) (by k_asm) (by k_asm) ?_))))) | ((with_reducible show wpAny _ _ (call (Value.ref _) _) _ _ _); first | (((with_reducible show wpAny _ _ (call (Value.ref 183) _) _ _ _); k_dflt (first | ((refine Sp.use (beforeT_sp _ _ _ _ _ _ _ ?a1 ?a2 ?a3) (by k_asm) (by k_asm) (by k_asm) (by k_asm) (by k_asm) rfl rfl rfl rfl (nb rfl) (nb rfl) (by ktr_rel) ?znd ?_; (case znd => k_allIn); (case a1 => kaf_pre); (case a2 => kaf_pre); (case a3 => kaf_pre); k_whole); intro v9 nl9 h9 tk9 P9; obtain ⟨rfl, rfl⟩ := P9; intro F9 N9 ND9; dsimp only [List.cons_append, List.nil_append] at N9 ND9; (try k_sweep); (try dsimp only))))) | (((with_reducible show wpAny _ _ (call (Value.ref 183) _) _ _ _); k_dflt (first | ((refine Sp.use (beforeF_sp _ _ _ _ _ _ _ ?a1 ?a2 ?a3) (by k_asm) (by k_asm) (by k_asm) (by k_asm) (by k_asm) rfl rfl rfl rfl (nb rfl) (nb rfl) (by ktr_rel) ?znd ?_; (case znd => k_allIn); (case a1 => kaf_pre); (case a2 => kaf_pre); (case a3 => kaf_pre); k_whole); intro v9 nl9 h9 tk9 P9; obtain ⟨rfl, rfl⟩ := P9; intro F9 N9 ND9; dsimp only [List.cons_append, List.nil_append] at N9 ND9; (try k_sweep); (try dsimp only))))) | (((with_reducible show wpAny _ _ (call (Value.ref 176) _) _ _ _); k_dflt (first | ((refine Sp.use (dist_sp _ _ _ _ _ _ _ ?a1 ?a2 ?a3) (by k_asm) (by k_asm) (by k_asm) (by k_asm) (by k_asm) rfl rfl rfl rfl (nb rfl) (nb rfl) (by ktr_rel) ?znd ?_; (case znd => k_allIn); (case a1 => kaf_pre); (case a2 => kaf_pre); (case a3 => kaf_pre); k_whole); intro v9 nl9 h9 tk9 P9; obtain ⟨t9, rfl, rfl⟩ := P9; intro F9 N9 ND9; dsimp only [List.cons_append, List.nil_append] at N9 ND9; (try k_sweep); (try dsimp only)))))) | walk1 | (dsimp only; walk1) | (leave1; (try dsimp only)) | fail "no step"))
  all_goals (try dsimp only)
  all_goals (try k_unfold)
  all_goals (try dsimp only)
  all_goals (try k_unfold)
  all_goals (try dsimp only)
  all_goals (try k_unfold)
  all_goals (try dsimp only)
  all_goals (try (dsimp only))
  all_goals (with_reducible rename Fr _ _ _ _ => hf)
  all_goals (with_reducible rename News _ _ _ _ => hh)
  all_goals (refine ret2 _ _ _ _ _ hf hh ⟨_, rfl, rfl⟩ ND)
inductive P_take0_sp (w : World) (am : Addr) (ad : Addr) (pl : Addr) (k1 : Tok) (k2 : Tok) (t1 : Tok) (n : Nat) (ring : Int) (v : Value) (nl : List (Addr × Obj)) : Prop where
  | mk (t : _) (hh1 : v = .bytes #[] t) (hh2 : nl = [(am, instObj 943 ad), (ad, asO w k1 k2 t1 ring pl), (pl, listO [] n)]) : P_take0_sp w am ad pl k1 k2 t1 n ring v nl
theorem take0_sp (w : World) (am ad pl : Addr) (k1 k2 t1 : Tok) (n : Nat) (ring p : Int) (ts : Tok) (hr : ring = 256 ∨ ring = 4294967296) :
    Sp w 764 3815 926 [.ref am, .int (Int.fmod p ring) ts] [(am, instObj 943 ad), (ad, asO w k1 k2 t1 ring pl), (pl, listO [] n)] (P_take0_sp w am ad pl k1 k2 t1 n ring) := by
  refine Sp.enter (binds := [("self", .ref am), ("next", .int (Int.fmod p ring) ts)]) (by k_is) (by k_is) (by decide) (fun s X => BindsTo.of_eq rfl) (locs rfl) ?_
  intro env outer base g mean mg mb L' h₁ s Q E B X T F N ND ret
  obtain ⟨n_am_ad, n_am_pl, n_ad_pl⟩ := nn3 ND
  obtain r0 : ring ≠ 0 := by omega
  revert hr B X T F N ND ret n_am_ad n_am_pl n_ad_pl r0
  revert w am ad pl k1 k2 t1 n ring p ts env outer base g mean mg mb L' h₁ s Q E
  (iterate 1 (refine dum ?_))
  refine eps24 (by repeat' (first | refine @instNonemptyProd _ _ ?_ ?_ | infer_instance | exact neW | exact neS)) ?_
  intro hr B X T F N ND ret n_am_ad n_am_pl n_ad_pl r0
  have ND9 := ND
  have ret2 := fun v nl h tk m a b c d => ret v nl h tk m c a b d
  (repeat' (first | (k_unfold; (try dsimp only)) | (k_end; wrow_close) | ((with_reducible show wpAny _ _ (eval (Expr.Name _ _) _) _ _ _); first | ((k_here; (with_reducible first | (refine nmL (by first | exact nf926.1 | exact nf926.2.1) (by k_asm) (by k_dflt (exact Eq.refl (some _))) ?_) | (refine nmL (by first | exact nf1004.1 | exact nf1004.2.1 | exact nf1004.2.2.1 | exact nf1004.2.2.2.1) (by k_asm) (by k_dflt (exact Eq.refl (some _))) ?_) | (refine nmK nf1004.2.2.2.2.1 (gk_is_before _) (by k_asm) (by k_asm) (by k_asm) ?_) | (refine nmK nf1004.2.2.2.2.2.1 (gk_distance _) (by k_asm) (by k_asm) (by k_asm) ?_) | (refine nmB nf1004.2.2.2.2.2.2.1 (bk_bytes _) (by k_asm) (by k_asm) (by k_asm) ?_))))) | walk1 | (dsimp only; walk1) | (leave1; (try dsimp only)) | fail "no step"))
  all_goals (try dsimp only)
  all_goals (try k_unfold)
  all_goals (try dsimp only)
  all_goals (try k_unfold)
  all_goals (try dsimp only)
  all_goals (try k_unfold)
  all_goals (try dsimp only)
  all_goals (try (dsimp only))
  all_goals (with_reducible rename Fr _ _ _ _ => hf)
  all_goals (with_reducible rename News _ _ _ _ => hh)
  all_goals (refine ret2 _ _ _ _ _ hf (news_pick hh (by ktr_rel)) ⟨_, rfl, rfl⟩ ND)
end Mine
end PartR5
section PartRx
open PySem PySem.W PySem.Calls PyProof.Rows PyProof.V PySem.Spec PySem.SeqAt
set_option Elab.async false
set_option maxRecDepth 100000
set_option maxHeartbeats 4000000
namespace Mine
section
variable {prog : Program} {w : World} {A : Around} {E : Value → Shared → Prop} {s : Shared} {h₀ : Heap} {L : Addr} {m : PySem.Str → Option Value} {news news' : List (Addr × Obj)} {l b : Addr}
theorem isList_of {vs : List Value} {n : Nat} (N : News h₀ L s.heap news) (hm : (l, listO vs n) ∈ news) : s.heap.IsList l vs.toArray := ⟨_, N.get hm, rfl, n, rfl⟩
theorem eq_len {vs us : List Value} {n k : Nat} {Q : Value → Shared → Prop} (N : News h₀ L s.heap news) (h1 : (l, listO vs n) ∈ news) (h2 : (b, listO us k) ∈ news) (hz : vs.length ≠ us.length) (hu : A.units < cLine)
    (h : Q (.bool false) s) : wpAny (model prog w) A (compareOp .Eq (.ref l) (.ref b)) Q E s :=
  eq_list_lengthsAt (isList_of N h1) (isList_of N h2) (by simpa using hz) hu h
theorem ne_len {vs us : List Value} {n k : Nat} {Q : Value → Shared → Prop} (N : News h₀ L s.heap news) (h1 : (l, listO vs n) ∈ news) (h2 : (b, listO us k) ∈ news) (hz : vs.length ≠ us.length) (hu : A.units < cLine)
    (h : Q (.bool true) s) : wpAny (model prog w) A (compareOp .NotEq (.ref l) (.ref b)) Q E s :=
  richCompare_meets_room (op := .NotEq) ⟨_, N.get h1, rfl⟩ ⟨_, N.get h2, rfl⟩ F.slot_list_ne F.entry_list_ne (F.args_list_ne_2 _ _) (list_ne_lengthsAt l b _ _ _ _ _ _ _ _ (by simpa using hz))
    ⟨N.get h1, N.get h2, show Value.bool true ≠ Value.notImplemented ∧ Q (.bool true) s from ⟨(fun x => nomatch x), h⟩⟩ hu
def ItO (l : Addr) (i : Nat) (o : Obj) : Prop := o.cls = .type "list_iterator" ∧ o.data = .fields #[.ref l, .int i 0]
theorem ItO.at {I : Addr} {i : Nat} {o : Obj} (h : ItO l i o) (hg : s.heap.get? I = some o) : s.heap.IsListIter I l i := ⟨o, hg, h.1, h.2⟩
/-- the end of a loop's iterator -/

theorem forLoopT {R : Result → Shared → Prop} {target it body env} (I : Nat → Shared → Prop)
    (turn : ∀ n s, I n s → wpAny (model prog w) A (pyNext it) (fun r s₁ => match r with
      | none => R (.ok .next) s₁
      | some v => wpAny (model prog w) A (letOwnedTupleGo target it v) (fun _ s₁ => wpAny (model prog w) A (assign target env v) (fun _ s₂ => wpAny (model prog w) A (execs body env) (fun f s₃ => match f with
          | .next | .cont => ∃ m, m < n ∧ I m s₃
          | .brk => R (.ok .next) s₃
          | .ret v => R (.ok (.ret v)) s₃) (notedBy (model prog w) A env fun e s' => R (.error e) s') s₂) (notedBy (model prog w) A env fun e s' => R (.error e) s') s₁) (notedBy (model prog w) A env fun e s' => R (.error e) s') s₁) (notedBy (model prog w) A env fun e s' => R (.error e) s') s)
    (n : Nat) (h : I n s) : codeAny (model prog w) A (.forLoop target it body [] env) R s := by
  refine codeAny_loop' rfl I (fun n s hI => ?_) n h
  show wpAny _ _ ((forTurn target it body [] env).onRaise (fun x => do noteFrame x env; theTreesLotGoes x)) _ _ s
  refine wpAny_noted ?_
  simp only [forTurn]
  refine wpAny_bind (wpAny_standAt (wpAny_bind (wpAny_onRaise (wpAny_mono (turn n s hI) (fun r s₁ h₁ => ?_) fun _ _ h' => wpAny_standAt h'))))
  cases r with
  | none => exact wpAny_pure (.inr ⟨rfl, codeAny_block (wpAny_execs_nil h₁)⟩)
  | some v =>
    refine wpAny_bind (wpAny_mono h₁ (fun _ s₁' h₁' => ?_) fun _ _ e => e)
    refine wpAny_bind (wpAny_mono h₁' (fun _ s₂ h₂ => wpAny_bind (wpAny_mono h₂ (fun f s₃ h₃ => ?_) fun _ _ h' => h')) fun _ _ h' => h')
    cases f with
    | next => exact wpAny_pure (.inl ⟨rfl, h₃⟩)
    | cont => exact wpAny_pure (.inl ⟨rfl, h₃⟩)
    | brk => exact wpAny_pure h₃
    | ret v => exact wpAny_pure h₃
theorem forIter0 {target : PySem.Expr} {body : List Stmt} {env : Env} {n : Nat} {R : Result → Shared → Prop} (hh : A.handled = none) (F : Fr h₀ L s.heap m) (N : News h₀ L s.heap news) (hl : (l, listO [] n) ∈ news)
    (h : ∀ h', Fr h₀ L h' m → News h₀ L h' news → R (.ok .next) { s with heap := h' }) :
    wpAny (model prog w) A (pyIter (.ref l)) (fun it s₂ => codeAny (model prog w) A (.forLoop target it body [] env) R s₂) E s := by
  refine wpAny_pyIter_list (isList_of N hl) ?_
  refine forLoopT (fun n s' => s' = { s with heap := s.heap.push { cls := .type "list_iterator", data := .fields #[.ref l, .int 0 0] } }) ?_ 0 rfl
  rintro n s' rfl
  have hlt := Heap.lt_size (N _ hl).1
  refine wpAny_pyNext_list_end hh ⟨_, Heap.get?_push_size _ rfl, rfl, rfl⟩ ((isList_of N hl).push _) (by simp) fun h' he => (h h' ?_ fun p hp => ?_)
  · obtain ⟨oL, es, ep, hL, q⟩ := F.ns
    exact ⟨⟨oL, es, ep, he _ _ (Nat.ne_of_lt (Heap.lt_size hL)) (Heap.get?_push_of_some _ hL), q⟩, fun b o e => he b o (Nat.ne_of_lt (Heap.lt_size (F.keep b o e))) (Heap.get?_push_of_some _ (F.keep b o e)), F.above⟩
  · exact ⟨he _ _ (Nat.ne_of_lt (Heap.lt_size (N p hp).1)) (Heap.get?_push_of_some _ (N p hp).1), (N p hp).2⟩

end
end Mine
end PartRx
section SecRX
open PySem PySem.W PySem.Calls PyProof.Rows Mine
set_option hygiene false in
local macro_rules | `(tactic| walk_at "compareOp Eq ref ref") => `(tactic| (k_here; (with_reducible refine gd8 ?_); k_dflt (refine eq_len (by k_asm) (by k_mem) (by k_mem) (by simp) (by units_room) ?_)))
set_option hygiene false in
local macro_rules | `(tactic| walk_at "compareOp NotEq ref ref") => `(tactic| (k_here; (with_reducible refine gd9 ?_); k_dflt (refine ne_len (by k_asm) (by k_mem) (by k_mem) (by simp) (by units_room) ?_)))
set_option hygiene false in
local macro_rules | `(tactic| walk_at "exec For") => `(tactic| (k_here; (with_reducible refine gd10 ?_); k_dflt (refine wpAny_For ?_)))
set_option hygiene false in
local macro_rules | `(tactic| walk_at "pyIter ref") => `(tactic| (k_here; (with_reducible show wpAny _ _ (pyIter (Value.ref _)) (fun it s₂ => codeAny _ _ (Code.forLoop _ it _ _ _) _ s₂) _ _); k_dflt ((refine forIter0 rfl (by k_asm) (by k_asm) (by k_mem) ?_); intro h' F' N')))
theorem Mine.flush15 : True := by first | (w_top off; walk1) | trivial
section PartR6
theorem Mine.flush16 : True := by first | (w_top off; walk1) | trivial
open PySem PySem.W PySem.Calls PyProof.Rows
set_option Elab.async false
set_option maxRecDepth 100000
set_option maxHeartbeats 4000000
set_option rowWalk.seconds 0
set_option pp.maxSteps 6000
namespace Mine
inductive P_take1_sp (w : World) (am : Addr) (ad : Addr) (pl : Addr) (k1 : Tok) (k2 : Tok) (t1 : Tok) (c : Array UInt8) (ring : Int) (v : Value) (nl : List (Addr × Obj)) : Prop where
  | mk (t : _) (n : _) (hh1 : v = .bytes c t) (hh2 : nl = [(am, instObj 943 ad), (ad, asO w k1 k2 t1 ring pl), (pl, listO [] n)]) : P_take1_sp w am ad pl k1 k2 t1 c ring v nl
theorem take1_sp (w : World) (am ad pl tp : Addr) (k1 k2 t1 : Tok) (n m : Nat) (c : Array UInt8) (ring p : Int) (ts t6 t7 : Tok) (hr : ring = 256 ∨ ring = 4294967296) :
    Sp w 764 3815 926 [.ref am, .int (Int.fmod p ring) ts] [(am, instObj 943 ad), (ad, asO w k1 k2 t1 ring pl), (pl, listO [.ref tp] n), (tp, tupO [.int (Int.fmod p ring) t6, .bytes c t7] m)] (P_take1_sp w am ad pl k1 k2 t1 c ring) := by
  refine Sp.enter (binds := [("self", .ref am), ("next", .int (Int.fmod p ring) ts)]) (by k_is) (by k_is) (by decide) (fun s X => BindsTo.of_eq rfl) (locs rfl) ?_
  intro env outer base g mean mg mb L' h₁ s Q E B X T F N ND ret
  obtain ⟨n_am_ad, n_am_pl, n_am_tp, n_ad_pl, n_ad_tp, n_pl_tp⟩ := nn4 ND
  obtain r0 : ring ≠ 0 := by omega
  revert hr B X T F N ND ret n_am_ad n_am_pl n_am_tp n_ad_pl n_ad_tp n_pl_tp r0
  revert w am ad pl tp k1 k2 t1 n m c ring p ts t6 t7 env outer base g mean mg mb L' h₁ s Q E
  refine eps28 (by repeat' (first | refine @instNonemptyProd _ _ ?_ ?_ | infer_instance | exact neW | exact neS)) ?_
  intro hr B X T F N ND ret n_am_ad n_am_pl n_am_tp n_ad_pl n_ad_tp n_pl_tp r0
  have ND9 := ND
  have ret2 := fun v nl h tk m a b c d => ret v nl h tk m c a b d
  (repeat' (first | (k_unfold; (try dsimp only)) | (k_end; wrow_close) | ((with_reducible show wpAny _ _ (eval (Expr.Name _ _) _) _ _ _); first | ((k_here; (with_reducible first | (refine nmL (by first | exact nf926.1 | exact nf926.2.1) (by k_asm) (by k_dflt (exact Eq.refl (some _))) ?_))))) | ((with_reducible show wpAny _ _ (call (Value.ref _) _) _ _ _); first | (((with_reducible show wpAny _ _ (call (Value.ref 183) _) _ _ _); k_dflt (first | ((refine Sp.use (beforeF_sp _ _ _ _ _ _ _ ?a1 ?a2 ?a3) (by k_asm) (by k_asm) (by k_asm) (by k_asm) (by k_asm) rfl rfl rfl rfl (nb rfl) (nb rfl) (by ktr_rel) ?znd ?_; (case znd => k_allIn); (case a1 => kaf_pre); (case a2 => kaf_pre); (case a3 => kaf_pre); k_whole); intro v9 nl9 h9 tk9 P9; obtain ⟨rfl, rfl⟩ := P9; intro F9 N9 ND9; dsimp only [List.cons_append, List.nil_append] at N9 ND9; (try k_sweep); (try dsimp only))))) | (((with_reducible show wpAny _ _ (call (Value.ref 176) _) _ _ _); k_dflt (first | ((refine Sp.use (dist0_sp _ _ _ _ _ _ ?a1) (by k_asm) (by k_asm) (by k_asm) (by k_asm) (by k_asm) rfl rfl rfl rfl (nb rfl) (nb rfl) (by ktr_rel) ?znd ?_; (case znd => k_allIn); (case a1 => kaf_pre); k_whole); intro v9 nl9 h9 tk9 P9; obtain ⟨t9, rfl, rfl⟩ := P9; intro F9 N9 ND9; dsimp only [List.cons_append, List.nil_append] at N9 ND9; (try k_sweep); (try dsimp only)))))) | walk1 | (dsimp only; walk1) | (leave1; (try dsimp only)) | fail "no step"))
  all_goals (try dsimp only)
  all_goals (try k_unfold)
  all_goals (try dsimp only)
  all_goals (try k_unfold)
  all_goals (try dsimp only)
  all_goals (try k_unfold)
  all_goals (try dsimp only)
  all_goals (try (dsimp only))
  all_goals (with_reducible rename Fr _ _ _ _ => hf)
  all_goals (with_reducible rename News _ _ _ _ => hh)
  all_goals first
    | (exfalso; with_reducible contradiction)
    | (refine ret2 _ _ _ _ _ hf (news_pick hh (by ktr_rel)) ⟨_, _, rfl, rfl⟩ ?_)
  all_goals k_allIn
end Mine
end PartR6
section PartR7a
theorem Mine.flush17 : True := by first | (w_top off; walk1) | trivial
open PySem PySem.W PySem.Calls PyProof.Rows
set_option Elab.async false
set_option maxRecDepth 100000
set_option maxHeartbeats 4000000
set_option rowWalk.seconds 0
set_option pp.maxSteps 6000
namespace Mine
theorem fm_fm {p ring : Int} (hr : ring = 256 ∨ ring = 4294967296) : Int.fmod (Int.fmod p ring) ring = Int.fmod p ring := by
  have := fm_plus (U := p) (n := 0) hr
  simpa using this
inductive P_missing_sp (w : World) (am : Addr) (ad : Addr) (pl : Addr) (k1 : Tok) (k2 : Tok) (t1 : Tok) (n : Nat) (c : Array UInt8) (ring : Int) (v : Value) (nl : List (Addr × Obj)) : Prop where
  | mk (f : _) (q : _) (t : _) (t' : _) (k : _) (m : _) (hh1 : v = .ref f) (hh2 : nl = [(f, listO [.ref q] k), (q, tupO [.int 0 t, .bytes c t'] m), (am, instObj 943 ad), (ad, asO w k1 k2 t1 ring pl), (pl, listO [] n)]) : P_missing_sp w am ad pl k1 k2 t1 n c ring v nl
theorem missing_sp (w : World) (am ad pl : Addr) (k1 k2 t1 : Tok) (n : Nat) (c : Array UInt8) (ring p : Int) (t0 tc tn : Tok) (hr : ring = 256 ∨ ring = 4294967296) (hc : 1 ≤ c.size) (hc2 : c.size ≤ 100) :
    Sp w 765 3820 898 [.ref am, .int 0 t0, .bytes c tc, .int (Int.fmod p ring) tn] [(am, instObj 943 ad), (ad, asO w k1 k2 t1 ring pl), (pl, listO [] n)] (P_missing_sp w am ad pl k1 k2 t1 n c ring) := by
  refine Sp.enter (binds := [("self", .ref am), ("begin", .int 0 t0), ("octets", .bytes c tc), ("next", .int (Int.fmod p ring) tn)]) (by k_is) (by k_is) (by decide) (fun s X => BindsTo.of_eq rfl) (locs rfl) ?_
  intro env outer base g mean mg mb L' h₁ s Q E B X T F N ND ret
  obtain ⟨n_am_ad, n_am_pl, n_ad_pl⟩ := nn3 ND
  obtain r0 : ring ≠ 0 := by omega
  revert hr hc hc2 B X T F N ND ret n_am_ad n_am_pl n_ad_pl r0
  revert w am ad pl k1 k2 t1 n c ring p t0 tc tn env outer base g mean mg mb L' h₁ s Q E
  (iterate 2 (refine dum ?_))
  refine eps28 (by repeat' (first | refine @instNonemptyProd _ _ ?_ ?_ | infer_instance | exact neW | exact neS)) ?_
  intro hr hc hc2 B X T F N ND ret n_am_ad n_am_pl n_ad_pl r0
  have ND9 := ND
  have ret2 := fun v nl h tk m a b c d => ret v nl h tk m c a b d
  (repeat' (first | (k_unfold; (try dsimp only)) | (k_end; wrow_close) | ((with_reducible show wpAny _ _ (eval (Expr.Name _ _) _) _ _ _); first | ((k_here; (with_reducible first | (refine nmL (by first | exact nf898.1 | exact nf898.2.1 | exact nf898.2.2.1 | exact nf898.2.2.2.1 | exact nf898.2.2.2.2.1 | exact nf898.2.2.2.2.2.1 | exact nf898.2.2.2.2.2.2.1 | exact nf898.2.2.2.2.2.2.2.1 | exact nf898.2.2.2.2.2.2.2.2.1 | exact nf898.2.2.2.2.2.2.2.2.2.1 | exact nf898.2.2.2.2.2.2.2.2.2.2.1) (by k_asm) (by k_dflt (exact Eq.refl (some _))) ?_) | (refine nmB nf898.2.2.2.2.2.2.2.2.2.2.2.1 (bk_len _) (by k_asm) (by k_asm) (by k_asm) ?_))))) | (first | (with_reducible refine ite_pos ?c9 ?_; (case c9 => first | with_reducible assumption | omega | (simp only [decide_eq_true_eq, decide_eq_false_iff_not]; omega))) | (with_reducible refine ite_neg ?c9 ?_; (case c9 => first | with_reducible assumption | omega | (simp only [decide_eq_true_eq, decide_eq_false_iff_not]; omega))) | (with_reducible refine ite_isFalse ?c9 ?_; (case c9 => with_reducible assumption))) | walk1 | (dsimp only; walk1) | (leave1; (try dsimp only)) | fail "no step"))
  all_goals (try dsimp only)
  all_goals (try k_unfold)
  all_goals (try dsimp only)
  all_goals (try k_unfold)
  all_goals (try dsimp only)
  all_goals (try k_unfold)
  all_goals (try dsimp only)
  all_goals (try (dsimp only))
  all_goals (with_reducible rename Fr _ _ _ _ => hf)
  all_goals (with_reducible rename News _ _ _ _ => hh)
  all_goals (refine ret2 _ _ _ _ _ hf (news_pick hh (by ktr_rel)) ⟨_, _, _, _, _, _, rfl, rfl⟩ ?_)
  all_goals k_allIn
end Mine
end PartR7a
section PartR7b
theorem Mine.flush18 : True := by first | (w_top off; walk1) | trivial
open PySem PySem.W PySem.Calls PyProof.Rows
set_option Elab.async false
set_option maxRecDepth 100000
set_option maxHeartbeats 4000000
set_option rowWalk.seconds 0
set_option pp.maxSteps 6000
namespace Mine
inductive P_merged_sp (w : World) (am : Addr) (ad : Addr) (pl : Addr) (q : Addr) (k1 : Tok) (k2 : Tok) (t1 : Tok) (n : Nat) (ring : Int) (v : Value) (nl : List (Addr × Obj)) : Prop where
  | mk (g : _) (k : _) (hh1 : v = .ref g) (hh2 : nl = [(g, listO [.ref q] k), (am, instObj 943 ad), (ad, asO w k1 k2 t1 ring pl), (pl, listO [] n)]) : P_merged_sp w am ad pl q k1 k2 t1 n ring v nl
theorem merged_sp (w : World) (am ad pl f q : Addr) (k1 k2 t1 : Tok) (n k : Nat) (ring p : Int) (tn : Tok) :
    Sp w 765 3820 905 [.ref am, .ref f, .int (Int.fmod p ring) tn] [(f, listO [.ref q] k), (am, instObj 943 ad), (ad, asO w k1 k2 t1 ring pl), (pl, listO [] n)] (P_merged_sp w am ad pl q k1 k2 t1 n ring) := by
  refine Sp.enter (binds := [("self", .ref am), ("fresh", .ref f), ("next", .int (Int.fmod p ring) tn)]) (by k_is) (by k_is) (by decide) (fun s X => BindsTo.of_eq rfl) (locs rfl) ?_
  intro env outer base g mean mg mb L' h₁ s Q E B X T F N ND ret
  obtain ⟨n_f_am, n_f_ad, n_f_pl, n_am_ad, n_am_pl, n_ad_pl⟩ := nn4 ND
  revert B X T F N ND ret n_f_am n_f_ad n_f_pl n_am_ad n_am_pl n_ad_pl
  revert w am ad pl f q k1 k2 t1 n k ring p tn env outer base g mean mg mb L' h₁ s Q E
  (iterate 2 (refine dum ?_))
  refine eps28 (by repeat' (first | refine @instNonemptyProd _ _ ?_ ?_ | infer_instance | exact neW | exact neS)) ?_
  intro B X T F N ND ret n_f_am n_f_ad n_f_pl n_am_ad n_am_pl n_ad_pl
  have ND9 := ND
  have ret2 := fun v nl h tk m a b c d => ret v nl h tk m c a b d
  (repeat' (first | (k_unfold; (try dsimp only)) | (k_end; wrow_close) | ((with_reducible show wpAny _ _ (eval (Expr.Name _ _) _) _ _ _); first | ((k_here; (with_reducible first | (refine nmL (by first | exact nf905.1 | exact nf905.2.1 | exact nf905.2.2.1 | exact nf905.2.2.2.1 | exact nf905.2.2.2.2.1 | exact nf905.2.2.2.2.2.1 | exact nf905.2.2.2.2.2.2.1 | exact nf905.2.2.2.2.2.2.2.1) (by k_asm) (by k_dflt (exact Eq.refl (some _))) ?_))))) | walk1 | (dsimp only; walk1) | (leave1; (try dsimp only)) | fail "no step"))
  all_goals (try dsimp only)
  all_goals (try k_unfold)
  all_goals (try dsimp only)
  all_goals (try k_unfold)
  all_goals (try dsimp only)
  all_goals (try k_unfold)
  all_goals (try dsimp only)
  all_goals (try (dsimp only))
  all_goals (with_reducible rename Fr _ _ _ _ => hf)
  all_goals (with_reducible rename News _ _ _ _ => hh)
  all_goals (refine ret2 _ _ _ _ _ hf (news_pick hh (by ktr_rel)) ⟨_, _, rfl, rfl⟩ ?_)
  all_goals k_allIn
end Mine
end PartR7b
section PartR7c
theorem Mine.flush19 : True := by first | (w_top off; walk1) | trivial
open PySem PySem.W PySem.Calls PyProof.Rows
set_option Elab.async false
set_option maxRecDepth 100000
set_option maxHeartbeats 4000000
set_option rowWalk.seconds 0
set_option pp.maxSteps 6000
namespace Mine
inductive P_joined_sp (w : World) (am : Addr) (ad : Addr) (pl : Addr) (k1 : Tok) (k2 : Tok) (t1 : Tok) (c : Array UInt8) (ring : Int) (p : Int) (v : Value) (nl : List (Addr × Obj)) : Prop where
  | mk (f : _) (tp : _) (t6 : _) (t7 : _) (k : _) (m : _) (hh1 : v = .ref f) (hh2 : nl = [(f, listO [.ref tp] k), (tp, tupO [.int (Int.fmod p ring) t6, .bytes c t7] m), (am, instObj 943 ad), (ad, asO w k1 k2 t1 ring pl)]) : P_joined_sp w am ad pl k1 k2 t1 c ring p v nl
theorem joined_sp (w : World) (am ad pl gg q : Addr) (k1 k2 t1 : Tok) (k m : Nat) (c : Array UInt8) (ring p : Int) (t t' tn : Tok) (hr : ring = 256 ∨ ring = 4294967296) (hc2 : c.size ≤ 100) :
    Sp w 765 3820 912 [.ref am, .ref gg, .int (Int.fmod p ring) tn] [(gg, listO [.ref q] k), (q, tupO [.int 0 t, .bytes c t'] m), (am, instObj 943 ad), (ad, asO w k1 k2 t1 ring pl)] (P_joined_sp w am ad pl k1 k2 t1 c ring p) := by
  refine Sp.enter (binds := [("self", .ref am), ("pieces", .ref gg), ("next", .int (Int.fmod p ring) tn)]) (by k_is) (by k_is) (by decide) (fun s X => BindsTo.of_eq rfl) (locs rfl) ?_
  intro env outer base g mean mg mb L' h₁ s Q E B X T F N ND ret
  obtain ⟨n_gg_q, n_gg_am, n_gg_ad, n_q_am, n_q_ad, n_am_ad⟩ := nn4 ND
  obtain r0 : ring ≠ 0 := by omega
  revert hr hc2 B X T F N ND ret n_gg_q n_gg_am n_gg_ad n_q_am n_q_ad n_am_ad r0
  revert w am ad pl gg q k1 k2 t1 k m c ring p t t' tn env outer base g mean mg mb L' h₁ s Q E
  (iterate 3 (refine dum ?_))
  refine eps32 (by repeat' (first | refine @instNonemptyProd _ _ ?_ ?_ | infer_instance | exact neW | exact neS)) ?_
  intro hr hc2 B X T F N ND ret n_gg_q n_gg_am n_gg_ad n_q_am n_q_ad n_am_ad r0
  have ND9 := ND
  have ret2 := fun v nl h tk m a b c d => ret v nl h tk m c a b d
  (repeat' (first | (k_unfold; (try dsimp only)) | (k_end; wrow_close) | ((with_reducible show wpAny _ _ (eval (Expr.Name _ _) _) _ _ _); first | ((k_here; (with_reducible first | (refine nmL (by first | exact nf912.1 | exact nf912.2.1 | exact nf912.2.2.1 | exact nf912.2.2.2.1 | exact nf912.2.2.2.2.1 | exact nf912.2.2.2.2.2.1 | exact nf912.2.2.2.2.2.2.1 | exact nf912.2.2.2.2.2.2.2.1 | exact nf912.2.2.2.2.2.2.2.2.1) (by k_asm) (by k_dflt (exact Eq.refl (some _))) ?_) | (refine nmK nf912.2.2.2.2.2.2.2.2.2.1 (gk_plus _) (by k_asm) (by k_asm) (by k_asm) ?_) | (refine nmB nf912.2.2.2.2.2.2.2.2.2.2.1 (bk_len _) (by k_asm) (by k_asm) (by k_asm) ?_))))) | ((with_reducible show wpAny _ _ (call (Value.ref _) _) _ _ _); first | (((with_reducible show wpAny _ _ (call (Value.ref 169) _) _ _ _); k_dflt (first | ((refine Sp.use (plus_sp _ _ _ _ _ _ _ ?a1) (by k_asm) (by k_asm) (by k_asm) (by k_asm) (by k_asm) rfl rfl rfl rfl (nb rfl) (nb rfl) (by ktr_rel) ?znd ?_; (case znd => k_allIn); (case a1 => kaf_pre); k_whole); intro v9 nl9 h9 tk9 P9; obtain ⟨t9, rfl, rfl⟩ := P9; intro F9 N9 ND9; dsimp only [List.cons_append, List.nil_append] at N9 ND9; (try k_sweep); (try dsimp only)))))) | walk1 | (dsimp only; walk1) | (leave1; (try dsimp only)) | fail "no step"))
  all_goals (try dsimp only)
  all_goals (try k_unfold)
  all_goals (try dsimp only)
  all_goals (try k_unfold)
  all_goals (try dsimp only)
  all_goals (try k_unfold)
  all_goals (try dsimp only)
  all_goals (try (dsimp only))
  all_goals (with_reducible rename Fr _ _ _ _ => hf)
  all_goals (with_reducible rename News _ _ _ _ => hh)
  all_goals (simp only [Int.add_zero, fm_fm hr] at hh)
  all_goals (refine ret2 _ _ _ _ _ hf (news_pick hh (by ktr_rel)) ⟨_, _, _, _, _, _, rfl, rfl⟩ ?_)
  all_goals k_allIn
end Mine
end PartR7c
section PartR7
theorem Mine.flush20 : True := by first | (w_top off; walk1) | trivial
open PySem PySem.W PySem.Calls PyProof.Rows
set_option Elab.async false
set_option maxRecDepth 100000
set_option maxHeartbeats 4000000
set_option rowWalk.seconds 0
set_option pp.maxSteps 6000
namespace Mine
inductive P_put_sp (w : World) (am : Addr) (ad : Addr) (c : Array UInt8) (ring : Int) (p : Int) (v : Value) (nl : List (Addr × Obj)) : Prop where
  | mk (pl : _) (k1 : _) (k2 : _) (t1 : _) (tp : _) (t6 : _) (t7 : _) (n : _) (m : _) (hh1 : nl = [(am, instObj 943 ad), (ad, asO w k1 k2 t1 ring pl), (pl, listO [.ref tp] n), (tp, tupO [.int (Int.fmod p ring) t6, .bytes c t7] m)]) : P_put_sp w am ad c ring p v nl
theorem put_sp (w : World) (am ad pl : Addr) (k1 k2 t1 : Tok) (n : Nat) (c : Array UInt8) (ring p : Int) (ts tc tn : Tok) (hr : ring = 256 ∨ ring = 4294967296) (hc : 1 ≤ c.size) (hc2 : c.size ≤ 100) :
    Sp w 764 3815 891 [.ref am, .int (Int.fmod p ring) ts, .bytes c tc, .int (Int.fmod p ring) tn] [(am, instObj 943 ad), (ad, asO w k1 k2 t1 ring pl), (pl, listO [] n)] (P_put_sp w am ad c ring p) := by
  refine Sp.enter (binds := [("self", .ref am), ("seq", .int (Int.fmod p ring) ts), ("octets", .bytes c tc), ("next", .int (Int.fmod p ring) tn)]) (by k_is) (by k_is) (by decide) (fun s X => BindsTo.of_eq rfl) (locs rfl) ?_
  intro env outer base g mean mg mb L' h₁ s Q E B X T F N ND ret
  obtain ⟨n_am_ad, n_am_pl, n_ad_pl⟩ := nn3 ND
  obtain r0 : ring ≠ 0 := by omega
  revert hr hc hc2 B X T F N ND ret n_am_ad n_am_pl n_ad_pl r0
  revert w am ad pl k1 k2 t1 n c ring p ts tc tn env outer base g mean mg mb L' h₁ s Q E
  (iterate 2 (refine dum ?_))
  refine eps28 (by repeat' (first | refine @instNonemptyProd _ _ ?_ ?_ | infer_instance | exact neW | exact neS)) ?_
  intro hr hc hc2 B X T F N ND ret n_am_ad n_am_pl n_ad_pl r0
  have ND9 := ND
  have ret2 := fun v nl h tk m a b c d => ret v nl h tk m c a b d
  (repeat' (first | (k_unfold; (try dsimp only)) | (k_end; wrow_close) | ((with_reducible show wpAny _ _ (eval (Expr.Name _ _) _) _ _ _); first | ((k_here; (with_reducible first | (refine nmL (by first | exact nf891.1 | exact nf891.2.1 | exact nf891.2.2.1 | exact nf891.2.2.2.1 | exact nf891.2.2.2.2.1 | exact nf891.2.2.2.2.2.1) (by k_asm) (by k_dflt (exact Eq.refl (some _))) ?_))))) | ((with_reducible show wpAny _ _ (call (Value.ref _) _) _ _ _); first | (((with_reducible show wpAny _ _ (call (Value.ref 912) _) _ _ _); k_dflt (first | ((refine Sp.use (joined_sp _ _ _ _ _ _ _ _ _ _ _ _ _ _ _ _ _ ?a1 ?a2) (by k_asm) (by k_asm) (by k_asm) (by k_asm) (by k_asm) rfl rfl rfl rfl (nb rfl) (nb rfl) (by ktr_rel) ?znd ?_; (case znd => k_allIn); (case a1 => kaf_pre); (case a2 => kaf_pre); k_whole); intro v9 nl9 h9 tk9 P9; obtain ⟨f92, tp9, t93, t94, k93, m92, rfl, rfl⟩ := P9; intro F9 N9 ND9; dsimp only [List.cons_append, List.nil_append] at N9 ND9; (try k_sweep); (try dsimp only); (have nn90 : NN f92 tp9 := nijp ND9 0 1 rfl rfl rfl); (have nn91 : NN f92 _ := nijp ND9 0 2 rfl rfl rfl); (have nn92 : NN f92 _ := nijp ND9 0 3 rfl rfl rfl); (have nn93 : NN tp9 _ := nijp ND9 1 2 rfl rfl rfl); (have nn94 : NN tp9 _ := nijp ND9 1 3 rfl rfl rfl))))) | (((with_reducible show wpAny _ _ (call (Value.ref 905) _) _ _ _); k_dflt (first | ((refine Sp.use (merged_sp _ _ _ _ _ _ _ _ _ _ _ _ _ _) (by k_asm) (by k_asm) (by k_asm) (by k_asm) (by k_asm) rfl rfl rfl rfl (nb rfl) (nb rfl) (by ktr_rel) ?znd ?_; (case znd => k_allIn);  k_whole); intro v9 nl9 h9 tk9 P9; obtain ⟨g9, k92, rfl, rfl⟩ := P9; intro F9 N9 ND9; dsimp only [List.cons_append, List.nil_append] at N9 ND9; (try k_sweep); (try dsimp only))))) | (((with_reducible show wpAny _ _ (call (Value.ref 898) _) _ _ _); k_dflt (first | ((refine Sp.use (missing_sp _ _ _ _ _ _ _ _ _ _ _ _ _ _ ?a1 ?a2 ?a3) (by k_asm) (by k_asm) (by k_asm) (by k_asm) (by k_asm) rfl rfl rfl rfl (nb rfl) (nb rfl) (by ktr_rel) ?znd ?_; (case znd => k_allIn); (case a1 => kaf_pre); (case a2 => kaf_pre); (case a3 => kaf_pre); k_whole); intro v9 nl9 h9 tk9 P9; obtain ⟨f9, q9, t91, t92, k91, m9, rfl, rfl⟩ := P9; intro F9 N9 ND9; dsimp only [List.cons_append, List.nil_append] at N9 ND9; (try k_sweep); (try dsimp only))))) | (((with_reducible show wpAny _ _ (call (Value.ref 183) _) _ _ _); k_dflt (first | ((refine Sp.use (beforeF_sp _ _ _ _ _ _ _ ?a1 ?a2 ?a3) (by k_asm) (by k_asm) (by k_asm) (by k_asm) (by k_asm) rfl rfl rfl rfl (nb rfl) (nb rfl) (by ktr_rel) ?znd ?_; (case znd => k_allIn); (case a1 => kaf_pre); (case a2 => kaf_pre); (case a3 => kaf_pre); k_whole); intro v9 nl9 h9 tk9 P9; obtain ⟨rfl, rfl⟩ := P9; intro F9 N9 ND9; dsimp only [List.cons_append, List.nil_append] at N9 ND9; (try k_sweep); (try dsimp only))))) | (((with_reducible show wpAny _ _ (call (Value.ref 176) _) _ _ _); k_dflt (first | ((refine Sp.use (dist0_sp _ _ _ _ _ _ ?a1) (by k_asm) (by k_asm) (by k_asm) (by k_asm) (by k_asm) rfl rfl rfl rfl (nb rfl) (nb rfl) (by ktr_rel) ?znd ?_; (case znd => k_allIn); (case a1 => kaf_pre); k_whole); intro v9 nl9 h9 tk9 P9; obtain ⟨t9, rfl, rfl⟩ := P9; intro F9 N9 ND9; dsimp only [List.cons_append, List.nil_append] at N9 ND9; (try k_sweep); (try dsimp only)))))) | walk1 | (dsimp only; walk1) | (leave1; (try dsimp only)) | fail "no step"))
  all_goals (try dsimp only)
  all_goals (try k_unfold)
  all_goals (try dsimp only)
  all_goals (try k_unfold)
  all_goals (try dsimp only)
  all_goals (try k_unfold)
  all_goals (try dsimp only)
  all_goals (try (dsimp only))
  all_goals (with_reducible rename Fr _ _ _ _ => hf)
  all_goals (with_reducible rename News _ _ _ _ => hh)
  all_goals (refine ret2 _ _ _ _ _ hf (news_pick hh (by ktr_rel)) ⟨_, _, _, _, _, _, _, _, _, rfl⟩ ?_)
  all_goals k_allIn
end Mine
end PartR7
section PartR8
theorem Mine.flush21 : True := by first | (w_top off; walk1) | trivial
open PySem PySem.W PySem.Calls PyProof.Rows
set_option Elab.async false
set_option maxRecDepth 100000
set_option maxHeartbeats 4000000
set_option rowWalk.seconds 0
set_option pp.maxSteps 6000
namespace Mine

section
variable {M : Model} {A : Around} {E : Value → Shared → Prop} {s : Shared} {env : Env}
theorem wpG_callMethod1 {pos : Pos} {id : String} {first : List Value} {e : PySem.Expr} {rest : List PySem.Expr} {Q : Value → Shared → Prop}
    (h : wpAny M A (spliced (backTo pos (starEach (e :: rest) env))) (fun vs s₁ => wpG M A (call (.builtin id) (first ++ vs)) Q E s₁) E s)
    (he : starEach (e :: rest) env = (false, eval e env) :: starEach rest env := by rfl)
    (hplain : (backTo pos (starEach rest env)).any (·.1) = false := by rfl) :
    wpG M A (callWith pos (.builtin id) first (backTo pos (starEach (e :: rest) env)) []) Q E s := by
  rw [he] at h ⊢
  exact wpG_callBuiltin (by show (false || (backTo pos (starEach rest env)).any (·.1)) = false; rw [hplain]; rfl) (evalArgs_plain h)
theorem wpG_callK1 {w : World} {h₀ : Heap} {L : Addr} {m : PySem.Str → Option Value} {pos : Pos} {f : Value} {first : List Value} {e : PySem.Expr} {rest : List PySem.Expr} {Q : Value → Shared → Prop} (X : (K w.params).In h₀) (hk : keepIn (K w.params) f = true)
    (h : wpAny M A (spliced (backTo pos (starEach (e :: rest) env))) (fun vs s₁ => (∃ m', Fr h₀ L s₁.heap m') ∧ wpG M A (call f (first ++ vs)) Q E s₁) E s)
    (he : starEach (e :: rest) env = (false, eval e env) :: starEach rest env := by rfl)
    (hplain : (backTo pos (starEach rest env)).any (·.1) = false := by rfl) :
    wpG M A (callWith pos f first (backTo pos (starEach (e :: rest) env)) []) Q E s := by
  rw [he] at h ⊢
  exact wpG_callWith (by show (false || (backTo pos (starEach rest env)).any (·.1)) = false; rw [hplain]; rfl) hk (evalArgs_plain (wpAny_mono h (fun vs s₁ h₁ => ⟨X.keeps h₁.1.choose_spec.keep, h₁.2⟩) fun _ _ e => e))
theorem wpG_callK1F {w : World} {h₀ : Heap} {L : Addr} {m1 : PySem.Str → Option Value} {pos : Pos} {f : Value} {first : List Value} {e : PySem.Expr} {rest : List PySem.Expr} {Q : Value → Shared → Prop} (_ : Fr h₀ L s.heap m1) (X : (K w.params).In h₀) (hk : keepIn (K w.params) f = true)
    (h : wpAny M A (spliced (backTo pos (starEach (e :: rest) env))) (fun vs s₁ => (∃ m', Fr h₀ L s₁.heap m') ∧ wpG M A (call f (first ++ vs)) Q E s₁) E s)
    (he : starEach (e :: rest) env = (false, eval e env) :: starEach rest env := by rfl)
    (hplain : (backTo pos (starEach rest env)).any (·.1) = false := by rfl) :
    wpG M A (callWith pos f first (backTo pos (starEach (e :: rest) env)) []) Q E s := wpG_callK1 (L := L) (m := fun _ => none) X hk h he hplain
theorem wpG_callK0 {w : World} {h₀ : Heap} {L : Addr} {m : PySem.Str → Option Value} {pos : Pos} {f : Value} {first : List Value} {Q : Value → Shared → Prop} (X : (K w.params).In h₀) (hk : keepIn (K w.params) f = true) (F : Fr h₀ L s.heap m)
    (h : wpG M A (call f first) Q E s) : wpG M A (callWith pos f first (backTo pos (starEach [] env)) []) Q E s :=
  wpG_callWith (args := []) rfl hk (PyProof.Rows.evalArgs_none ⟨X.keeps F.keep, by simpa using h⟩)
end
inductive P_gather1_sp (w : World) (x : Addr) (d : Addr) (S : Addr) (am : Addr) (ad : Addr) (pl : Addr) (j1 : Tok) (j2 : Tok) (j3 : Tok) (b : Array UInt8) (c : Array UInt8) (ring : Int) (room : Int) (mss : Int) (p : Int) (e : Int) (v : Value) (nl : List (Addr × Obj)) : Prop where
  | mk (oR' : _) (b' : _) (n : _) (t : _) (hh1 : v = .int (c : Array UInt8).size t) (hh2 : b'.size = b.size + (c : Array UInt8).size) (hh3 : RcD w ring room mss (p + (c : Array UInt8).size) e S am oR') (hh4 : nl = [(x, instObj 1077 d), (d, oR'), (S, baO b'), (am, instObj 943 ad), (ad, asO w j1 j2 j3 ring pl), (pl, listO [] n)]) : P_gather1_sp w x d S am ad pl j1 j2 j3 b c ring room mss p e v nl
theorem gather1_sp (w : World) (x d S am ad pl tp : Addr) (oR : Obj) (j1 j2 j3 t6 t7 : Tok) (n m : Nat) (b c : Array UInt8) (ring room mss p e : Int) (h : RcD w ring room mss p e S am oR) (hr : ring = 256 ∨ ring = 4294967296) (hb : b.size ≤ 70000) (hc : c.size ≤ 100) :
    SpG w 758 3790 1025 [.ref x] [(x, instObj 1077 d), (d, oR), (S, baO b), (am, instObj 943 ad), (ad, asO w j1 j2 j3 ring pl), (pl, listO [.ref tp] n), (tp, tupO [.int (Int.fmod p ring) t6, .bytes c t7] m)] (P_gather1_sp w x d S am ad pl j1 j2 j3 b c ring room mss p e) := by
  obtain ⟨k1Z, rfl⟩ := h
  refine SpG.enter (binds := [("self", .ref x)]) (by k_is) (by k_is) (by decide) (fun s X => BindsTo.of_eq rfl) (locs rfl) ?_
  intro env outer base g mean mg mb L' h₁ s Q E B X T F N ND ret
  obtain ⟨n_x_d, n_x_S, n_x_am, n_x_ad, n_x_pl, n_x_tp, n_d_S, n_d_am, n_d_ad, n_d_pl, n_d_tp, n_S_am, n_S_ad, n_S_pl, n_S_tp, n_am_ad, n_am_pl, n_am_tp, n_ad_pl, n_ad_tp, n_pl_tp⟩ := nn7 ND
  obtain r0 : ring ≠ 0 := by omega
  obtain z0 : (#[] : Array UInt8).size = 0 := rfl
  refine wpG_execs_consA ?_
  revert hr hb hc B X T F N ND ret n_x_d n_x_S n_x_am n_x_ad n_x_pl n_x_tp n_d_S n_d_am n_d_ad n_d_pl n_d_tp n_S_am n_S_ad n_S_pl n_S_tp n_am_ad n_am_pl n_am_tp n_ad_pl n_ad_tp n_pl_tp r0 z0
  revert w x d S am ad pl tp j1 j2 j3 t6 t7 n m b c ring room mss p e k1Z env outer base g mean mg mb L' h₁ s Q E
  (iterate 2 (refine dum ?_))
  refine eps37 (by repeat' (first | refine @instNonemptyProd _ _ ?_ ?_ | infer_instance | exact neW | exact neS | exact neRcZ)) ?_
  intro hr hb hc B X T F N ND ret n_x_d n_x_S n_x_am n_x_ad n_x_pl n_x_tp n_d_S n_d_am n_d_ad n_d_pl n_d_tp n_S_am n_S_ad n_S_pl n_S_tp n_am_ad n_am_pl n_am_tp n_ad_pl n_ad_tp n_pl_tp r0 z0
  have ND9 := ND
  have ret2 := fun v nl h tk m a b c d => ret v nl h tk m c a b d
  k_steps
  all_goals (try dsimp only)
  all_goals (refine wpG_execs_consA ?_)
  all_goals (repeat' (first | (k_unfold; (try dsimp only)) | (k_end; wrow_close) | ((with_reducible show wpAny _ _ (eval (Expr.Name _ _) _) _ _ _); first | ((k_here; (with_reducible first | (refine nmL (by first | exact nf1025.1 | exact nf1025.2.1) (by k_asm) (by k_dflt (exact Eq.refl (some _))) ?_) | (refine nmK nf1025.2.2.1 (gk_plus _) (by k_asm) (by k_asm) (by k_asm) ?_) | (refine nmB nf1025.2.2.2.1 (bk_len _) (by k_asm) (by k_asm) (by k_asm) ?_))))) | ((with_reducible show wpAny _ _ (call (Value.ref _) _) _ _ _); first | (((with_reducible show wpAny _ _ (call (Value.ref 926) _) _ _ _); k_dflt (first | ((refine Sp.use (take1_sp _ _ _ _ _ _ _ _ _ _ _ _ _ _ _ _ ?a1) (by k_asm) (by k_asm) (by k_asm) (by k_asm) (by k_asm) rfl rfl rfl rfl (nb rfl) (nb rfl) (by ktr_rel) ?znd ?_; (case znd => k_allIn); (case a1 => kaf_pre); k_whole); intro v9 nl9 h9 tk9 P9; obtain ⟨t9, n9, rfl, rfl⟩ := P9; intro F9 N9 ND9; dsimp only [List.cons_append, List.nil_append] at N9 ND9; (try k_sweep); (try dsimp only)))))) | walk1 | (dsimp only; walk1) | (leave1; (try dsimp only)) | fail "no step"))
  all_goals (try dsimp only)
  all_goals (refine wpG_execs_cons (wpG_Expr (wpG_MethodCall ?_)))
  all_goals (repeat' (first | (k_unfold; (try dsimp only)) | (k_end; wrow_close) | ((with_reducible show wpAny _ _ (eval (Expr.Name _ _) _) _ _ _); first | ((k_here; (with_reducible first | (refine nmL (by first | exact nf1025.1 | exact nf1025.2.1) (by k_asm) (by k_dflt (exact Eq.refl (some _))) ?_) | (refine nmK nf1025.2.2.1 (gk_plus _) (by k_asm) (by k_asm) (by k_asm) ?_) | (refine nmB nf1025.2.2.2.1 (bk_len _) (by k_asm) (by k_asm) (by k_asm) ?_))))) | walk1 | (dsimp only; walk1) | (leave1; (try dsimp only)) | fail "no step"))
  all_goals (try dsimp only)
  all_goals (refine wpG_callMethod1 ?_)
  all_goals (repeat' (first | (k_unfold; (try dsimp only)) | (k_end; wrow_close) | ((with_reducible show wpAny _ _ (eval (Expr.Name _ _) _) _ _ _); first | ((k_here; (with_reducible first | (refine nmL (by first | exact nf1025.1 | exact nf1025.2.1) (by k_asm) (by k_dflt (exact Eq.refl (some _))) ?_) | (refine nmK nf1025.2.2.1 (gk_plus _) (by k_asm) (by k_asm) (by k_asm) ?_) | (refine nmB nf1025.2.2.2.1 (bk_len _) (by k_asm) (by k_asm) (by k_asm) ?_))))) | walk1 | (dsimp only; walk1) | (leave1; (try dsimp only)) | fail "no step"))
  all_goals (try dsimp only)
  all_goals (with_reducible rename Fr _ _ _ _ => hf)
  all_goals (with_reducible rename News _ _ _ _ => hh)
  all_goals (show wpG _ _ (call (Value.builtin "bytearray.extend") [Value.ref _, Value.bytes _ _] []) _ _ _)
  all_goals (refine extend_K hf hh (by k_upd) (by omega) ?_; intro h' F' N'; clear hf hh)
  all_goals (try dsimp only)
  all_goals (refine wpG.of ?_)
  all_goals (repeat' (first | (k_unfold; (try dsimp only)) | (k_end; wrow_close) | ((with_reducible show wpAny _ _ (eval (Expr.Name _ _) _) _ _ _); first | ((k_here; (with_reducible first | (refine nmL (by first | exact nf1025.1 | exact nf1025.2.1) (by k_asm) (by k_dflt (exact Eq.refl (some _))) ?_) | (refine nmK nf1025.2.2.1 (gk_plus _) (by k_asm) (by k_asm) (by k_asm) ?_) | (refine nmB nf1025.2.2.2.1 (bk_len _) (by k_asm) (by k_asm) (by k_asm) ?_))))) | ((with_reducible show wpAny _ _ (call (Value.ref _) _) _ _ _); first | (((with_reducible show wpAny _ _ (call (Value.ref 169) _) _ _ _); k_dflt (first | ((refine Sp.use (plus_sp _ _ _ _ _ _ _ ?a1) (by k_asm) (by k_asm) (by k_asm) (by k_asm) (by k_asm) rfl rfl rfl rfl (nb rfl) (nb rfl) (by ktr_rel) ?znd ?_; (case znd => k_allIn); (case a1 => kaf_pre); k_whole); intro v9 nl9 h9 tk9 P9; obtain ⟨t9, rfl, rfl⟩ := P9; intro F9 N9 ND9; dsimp only [List.cons_append, List.nil_append] at N9 ND9; (try k_sweep); (try dsimp only)))))) | walk1 | (dsimp only; walk1) | (leave1; (try dsimp only)) | fail "no step"))
  all_goals (try dsimp only)
  all_goals (try k_unfold)
  all_goals (try dsimp only)
  all_goals (try k_unfold)
  all_goals (try dsimp only)
  all_goals (try k_unfold)
  all_goals (try dsimp only)
  all_goals (try (dsimp only))
  all_goals (with_reducible rename Fr _ _ _ _ => hf)
  all_goals (with_reducible rename News _ _ _ _ => hh)
  all_goals (refine ret2 _ _ _ _ _ hf (news_pick hh (by ktr_rel)) ⟨_, _, _, _, rfl, Array.size_append, (RcD.of rfl), rfl⟩ ?_)
  all_goals k_allIn
inductive P_gather0_sp (w : World) (x : Addr) (d : Addr) (S : Addr) (am : Addr) (ad : Addr) (pl : Addr) (j1 : Tok) (j2 : Tok) (j3 : Tok) (b : Array UInt8) (ring : Int) (room : Int) (mss : Int) (p : Int) (e : Int) (v : Value) (nl : List (Addr × Obj)) : Prop where
  | mk (oR' : _) (b' : _) (n : _) (t : _) (hh1 : v = .int (#[] : Array UInt8).size t) (hh2 : b'.size = b.size + (#[] : Array UInt8).size) (hh3 : RcD w ring room mss (p + (#[] : Array UInt8).size) e S am oR') (hh4 : nl = [(x, instObj 1077 d), (d, oR'), (S, baO b'), (am, instObj 943 ad), (ad, asO w j1 j2 j3 ring pl), (pl, listO [] n)]) : P_gather0_sp w x d S am ad pl j1 j2 j3 b ring room mss p e v nl
theorem gather0_sp (w : World) (x d S am ad pl : Addr) (oR : Obj) (j1 j2 j3 : Tok) (n : Nat) (b : Array UInt8) (ring room mss p e : Int) (h : RcD w ring room mss p e S am oR) (hr : ring = 256 ∨ ring = 4294967296) (hb : b.size ≤ 70000) :
    SpG w 758 3790 1025 [.ref x] [(x, instObj 1077 d), (d, oR), (S, baO b), (am, instObj 943 ad), (ad, asO w j1 j2 j3 ring pl), (pl, listO [] n)] (P_gather0_sp w x d S am ad pl j1 j2 j3 b ring room mss p e) := by
  obtain ⟨k1Z, rfl⟩ := h
  refine SpG.enter (binds := [("self", .ref x)]) (by k_is) (by k_is) (by decide) (fun s X => BindsTo.of_eq rfl) (locs rfl) ?_
  intro env outer base g mean mg mb L' h₁ s Q E B X T F N ND ret
  obtain ⟨n_x_d, n_x_S, n_x_am, n_x_ad, n_x_pl, n_d_S, n_d_am, n_d_ad, n_d_pl, n_S_am, n_S_ad, n_S_pl, n_am_ad, n_am_pl, n_ad_pl⟩ := nn6 ND
  obtain r0 : ring ≠ 0 := by omega
  obtain z0 : (#[] : Array UInt8).size = 0 := rfl
  refine wpG_execs_consA ?_
  revert hr hb B X T F N ND ret n_x_d n_x_S n_x_am n_x_ad n_x_pl n_d_S n_d_am n_d_ad n_d_pl n_S_am n_S_ad n_S_pl n_am_ad n_am_pl n_ad_pl r0 z0
  revert w x d S am ad pl j1 j2 j3 n b ring room mss p e k1Z env outer base g mean mg mb L' h₁ s Q E
  (iterate 2 (refine dum ?_))
  refine eps32 (by repeat' (first | refine @instNonemptyProd _ _ ?_ ?_ | infer_instance | exact neW | exact neS | exact neRcZ)) ?_
  intro hr hb B X T F N ND ret n_x_d n_x_S n_x_am n_x_ad n_x_pl n_d_S n_d_am n_d_ad n_d_pl n_S_am n_S_ad n_S_pl n_am_ad n_am_pl n_ad_pl r0 z0
  have ND9 := ND
  have ret2 := fun v nl h tk m a b c d => ret v nl h tk m c a b d
  k_steps
  all_goals (try dsimp only)
  all_goals (refine wpG_execs_consA ?_)
  all_goals (repeat' (first | (k_unfold; (try dsimp only)) | (k_end; wrow_close) | ((with_reducible show wpAny _ _ (eval (Expr.Name _ _) _) _ _ _); first | ((k_here; (with_reducible first | (refine nmL (by first | exact nf1025.1 | exact nf1025.2.1) (by k_asm) (by k_dflt (exact Eq.refl (some _))) ?_) | (refine nmK nf1025.2.2.1 (gk_plus _) (by k_asm) (by k_asm) (by k_asm) ?_) | (refine nmB nf1025.2.2.2.1 (bk_len _) (by k_asm) (by k_asm) (by k_asm) ?_))))) | ((with_reducible show wpAny _ _ (call (Value.ref _) _) _ _ _); first | (((with_reducible show wpAny _ _ (call (Value.ref 926) _) _ _ _); k_dflt (first | ((refine Sp.use (take0_sp _ _ _ _ _ _ _ _ _ _ _ ?a1) (by k_asm) (by k_asm) (by k_asm) (by k_asm) (by k_asm) rfl rfl rfl rfl (nb rfl) (nb rfl) (by ktr_rel) ?znd ?_; (case znd => k_allIn); (case a1 => kaf_pre); k_whole); intro v9 nl9 h9 tk9 P9; obtain ⟨t9, rfl, rfl⟩ := P9; intro F9 N9 ND9; dsimp only [List.cons_append, List.nil_append] at N9 ND9; (try k_sweep); (try dsimp only)))))) | walk1 | (dsimp only; walk1) | (leave1; (try dsimp only)) | fail "no step"))
  all_goals (try dsimp only)
  all_goals (refine wpG_execs_cons (wpG_Expr (wpG_MethodCall ?_)))
  all_goals (repeat' (first | (k_unfold; (try dsimp only)) | (k_end; wrow_close) | ((with_reducible show wpAny _ _ (eval (Expr.Name _ _) _) _ _ _); first | ((k_here; (with_reducible first | (refine nmL (by first | exact nf1025.1 | exact nf1025.2.1) (by k_asm) (by k_dflt (exact Eq.refl (some _))) ?_) | (refine nmK nf1025.2.2.1 (gk_plus _) (by k_asm) (by k_asm) (by k_asm) ?_) | (refine nmB nf1025.2.2.2.1 (bk_len _) (by k_asm) (by k_asm) (by k_asm) ?_))))) | walk1 | (dsimp only; walk1) | (leave1; (try dsimp only)) | fail "no step"))
  all_goals (try dsimp only)
  all_goals (refine wpG_callMethod1 ?_)
  all_goals (repeat' (first | (k_unfold; (try dsimp only)) | (k_end; wrow_close) | ((with_reducible show wpAny _ _ (eval (Expr.Name _ _) _) _ _ _); first | ((k_here; (with_reducible first | (refine nmL (by first | exact nf1025.1 | exact nf1025.2.1) (by k_asm) (by k_dflt (exact Eq.refl (some _))) ?_) | (refine nmK nf1025.2.2.1 (gk_plus _) (by k_asm) (by k_asm) (by k_asm) ?_) | (refine nmB nf1025.2.2.2.1 (bk_len _) (by k_asm) (by k_asm) (by k_asm) ?_))))) | walk1 | (dsimp only; walk1) | (leave1; (try dsimp only)) | fail "no step"))
  all_goals (try dsimp only)
  all_goals (with_reducible rename Fr _ _ _ _ => hf)
  all_goals (with_reducible rename News _ _ _ _ => hh)
  all_goals (show wpG _ _ (call (Value.builtin "bytearray.extend") [Value.ref _, Value.bytes _ _] []) _ _ _)
  all_goals (refine extend_K hf hh (by k_upd) (by omega) ?_; intro h' F' N'; clear hf hh)
  all_goals (try dsimp only)
  all_goals (refine wpG.of ?_)
  all_goals (repeat' (first | (k_unfold; (try dsimp only)) | (k_end; wrow_close) | ((with_reducible show wpAny _ _ (eval (Expr.Name _ _) _) _ _ _); first | ((k_here; (with_reducible first | (refine nmL (by first | exact nf1025.1 | exact nf1025.2.1) (by k_asm) (by k_dflt (exact Eq.refl (some _))) ?_) | (refine nmK nf1025.2.2.1 (gk_plus _) (by k_asm) (by k_asm) (by k_asm) ?_) | (refine nmB nf1025.2.2.2.1 (bk_len _) (by k_asm) (by k_asm) (by k_asm) ?_))))) | ((with_reducible show wpAny _ _ (call (Value.ref _) _) _ _ _); first | (((with_reducible show wpAny _ _ (call (Value.ref 169) _) _ _ _); k_dflt (first | ((refine Sp.use (plus_sp _ _ _ _ _ _ _ ?a1) (by k_asm) (by k_asm) (by k_asm) (by k_asm) (by k_asm) rfl rfl rfl rfl (nb rfl) (nb rfl) (by ktr_rel) ?znd ?_; (case znd => k_allIn); (case a1 => kaf_pre); k_whole); intro v9 nl9 h9 tk9 P9; obtain ⟨t9, rfl, rfl⟩ := P9; intro F9 N9 ND9; dsimp only [List.cons_append, List.nil_append] at N9 ND9; (try k_sweep); (try dsimp only)))))) | walk1 | (dsimp only; walk1) | (leave1; (try dsimp only)) | fail "no step"))
  all_goals (try dsimp only)
  all_goals (try k_unfold)
  all_goals (try dsimp only)
  all_goals (try k_unfold)
  all_goals (try dsimp only)
  all_goals (try k_unfold)
  all_goals (try dsimp only)
  all_goals (try (dsimp only))
  all_goals (with_reducible rename Fr _ _ _ _ => hf)
  all_goals (with_reducible rename News _ _ _ _ => hh)
  all_goals (refine ret2 _ _ _ _ _ hf (news_pick hh (by ktr_rel)) ⟨_, _, _, _, rfl, Array.size_append, (RcD.of rfl), rfl⟩ ?_)
  all_goals k_allIn
end Mine
end PartR8
section PartR9
theorem Mine.flush22 : True := by first | (w_top off; walk1) | trivial
open PySem PySem.W PySem.Calls PyProof.Rows
set_option Elab.async false
set_option maxRecDepth 100000
set_option maxHeartbeats 4000000
set_option rowWalk.seconds 0
set_option pp.maxSteps 6000
namespace Mine
inductive P_arrive1_sp (w : World) (x : Addr) (d : Addr) (S : Addr) (am : Addr) (ad : Addr) (b : Array UInt8) (c : Array UInt8) (ring : Int) (room : Int) (mss : Int) (p : Int) (e : Int) (v : Value) (nl : List (Addr × Obj)) : Prop where
  | mk (tup : _) (oR' : _) (b' : _) (pl : _) (j1 : _) (j2 : _) (j3 : _) (n : _) (m : _) (t : _) (hh1 : v = .ref tup) (hh2 : b'.size = b.size + c.size) (hh3 : RcD w ring room mss (p + c.size) e S am oR') (hh4 : nl = [(tup, tupO [.int c.size t, .bool true] m), (x, instObj 1077 d), (d, oR'), (S, baO b'), (am, instObj 943 ad), (ad, asO w j1 j2 j3 ring pl), (pl, listO [] n)]) : P_arrive1_sp w x d S am ad b c ring room mss p e v nl
theorem arrive1_sp (w : World) (x d S am ad pl : Addr) (oR : Obj) (j1 j2 j3 ts tc : Tok) (n : Nat) (b : Array UInt8) (c : Array UInt8) (ring room mss p e : Int) (h : RcD w ring room mss p e S am oR) (hr : ring = 256 ∨ ring = 4294967296) (hb : b.size ≤ 70000) (hpe : p ≤ e) (hpr : 2 * (e - p) < ring) (hc : 1 ≤ c.size) (hc2 : c.size ≤ 100) (hc3 : c.size ≤ e - p) :
    SpG w 750 3750 997 [.ref x, .int (Int.fmod p ring) ts, .bytes c tc, .bool false] [(x, instObj 1077 d), (d, oR), (S, baO b), (am, instObj 943 ad), (ad, asO w j1 j2 j3 ring pl), (pl, listO [] n)] (P_arrive1_sp w x d S am ad b c ring room mss p e) := by
  obtain ⟨k1Z, rfl⟩ := h
  refine SpG.enter (binds := [("self", .ref x), ("seq", .int (Int.fmod p ring) ts), ("octets", .bytes c tc), ("has_fin", .bool false)]) (by k_is) (by k_is) (by decide) (fun s X => BindsTo.of_eq rfl) (locs rfl) ?_
  intro env outer base g mean mg mb L' h₁ s Q E B X T F N ND ret
  obtain ⟨n_x_d, n_x_S, n_x_am, n_x_ad, n_x_pl, n_d_S, n_d_am, n_d_ad, n_d_pl, n_S_am, n_S_ad, n_S_pl, n_am_ad, n_am_pl, n_ad_pl⟩ := nn6 ND
  obtain r0 : ring ≠ 0 := by omega
  obtain hn : (c.toList != (#[] : Array UInt8).toList) = true := by
    rw [bne_iff_ne]
    intro q
    have z : c.size = 0 := by
      have := congrArg List.length q
      rwa [Array.length_toList, Array.length_toList] at this
    omega
  obtain z0 : (#[] : Array UInt8).size = 0 := rfl
  refine wpG_execs_consA ?_
  revert hr hb hpe hpr hc hc2 hc3 B X T F N ND ret n_x_d n_x_S n_x_am n_x_ad n_x_pl n_d_S n_d_am n_d_ad n_d_pl n_S_am n_S_ad n_S_pl n_am_ad n_am_pl n_ad_pl r0 hn z0
  revert w x d S am ad pl j1 j2 j3 ts tc n b c ring room mss p e k1Z env outer base g mean mg mb L' h₁ s Q E
  (iterate 4 (refine dum ?_))
  refine eps37 (by repeat' (first | refine @instNonemptyProd _ _ ?_ ?_ | infer_instance | exact neW | exact neS | exact neRcZ)) ?_
  intro hr hb hpe hpr hc hc2 hc3 B X T F N ND ret n_x_d n_x_S n_x_am n_x_ad n_x_pl n_d_S n_d_am n_d_ad n_d_pl n_S_am n_S_ad n_S_pl n_am_ad n_am_pl n_ad_pl r0 hn z0
  have ND9 := ND
  have ret2 := fun v nl h tk m a b c d => ret v nl h tk m c a b d
  (repeat' (first | (k_unfold; (try dsimp only)) | (k_end; wrow_close) | ((with_reducible show wpAny _ _ (eval (Expr.Name _ _) _) _ _ _); first | ((k_here; (with_reducible first | (refine nmL (by first | exact nf997.1 | exact nf997.2.1 | exact nf997.2.2.1 | exact nf997.2.2.2.1 | exact nf997.2.2.2.2.1 | exact nf997.2.2.2.2.2.1 | exact nf997.2.2.2.2.2.2.1) (by k_asm) (by k_dflt (exact Eq.refl (some _))) ?_) | (refine nmK nf997.2.2.2.2.2.2.2.1 (gk_is_at_most _) (by k_asm) (by k_asm) (by k_asm) ?_) | (refine nmK nf997.2.2.2.2.2.2.2.2.1 (gk_plus _) (by k_asm) (by k_asm) (by k_asm) ?_) | (refine nmB nf997.2.2.2.2.2.2.2.2.2.1 (bk_len _) (by k_asm) (by k_asm) (by k_asm) ?_))))) | ((with_reducible show wpAny _ _ (call (Value.ref _) _) _ _ _); first | (((with_reducible show wpAny _ _ (call (Value.ref 183) _) _ _ _); k_dflt (first | ((refine Sp.use (beforeT_sp _ _ _ _ _ _ _ ?a1 ?a2 ?a3) (by k_asm) (by k_asm) (by k_asm) (by k_asm) (by k_asm) rfl rfl rfl rfl (nb rfl) (nb rfl) (by ktr_rel) ?znd ?_; (case znd => k_allIn); (case a1 => kaf_pre); (case a2 => kaf_pre); (case a3 => kaf_pre); k_whole); intro v9 nl9 h9 tk9 P9; obtain ⟨rfl, rfl⟩ := P9; intro F9 N9 ND9; dsimp only [List.cons_append, List.nil_append] at N9 ND9; (try k_sweep); (try dsimp only)))))) | walk1 | (dsimp only; walk1) | (leave1; (try dsimp only)) | fail "no step"))
  all_goals (try dsimp only)
  all_goals first | (exfalso; with_reducible contradiction) | (exfalso; (with_reducible rename (bne _ _) = false => q9); rw [hn] at q9; cases q9; done) | (exfalso; (with_reducible rename (bne _ _) = true => q9); revert q9; simp; done) | skip
  all_goals (refine wpG_execs_consA ?_)
  all_goals (repeat' (first | (k_unfold; (try dsimp only)) | (k_end; wrow_close) | ((with_reducible show wpAny _ _ (eval (Expr.Name _ _) _) _ _ _); first | ((k_here; (with_reducible first | (refine nmL (by first | exact nf997.1 | exact nf997.2.1 | exact nf997.2.2.1 | exact nf997.2.2.2.1 | exact nf997.2.2.2.2.1 | exact nf997.2.2.2.2.2.1 | exact nf997.2.2.2.2.2.2.1) (by k_asm) (by k_dflt (exact Eq.refl (some _))) ?_) | (refine nmK nf997.2.2.2.2.2.2.2.1 (gk_is_at_most _) (by k_asm) (by k_asm) (by k_asm) ?_) | (refine nmK nf997.2.2.2.2.2.2.2.2.1 (gk_plus _) (by k_asm) (by k_asm) (by k_asm) ?_) | (refine nmB nf997.2.2.2.2.2.2.2.2.2.1 (bk_len _) (by k_asm) (by k_asm) (by k_asm) ?_))))) | ((with_reducible show wpAny _ _ (call (Value.ref _) _) _ _ _); first | (((with_reducible show wpAny _ _ (call (Value.ref 1004) _) _ _ _); k_dflt (first | ((refine Sp.useP (by k_asm) (by k_asm) (by k_asm) (by k_asm) (by k_asm) rfl rfl rfl rfl (by ktr_rel) ?znd (letin_sp _ _ _ _ _ _ _ _ _ _ _ _ _ _ _ (by exact (RcD.of rfl)) ?a1 ?a2 ?a3 ?a4) (nb rfl) (nb rfl) ?_; (case znd => k_allIn); (case a1 => kaf_pre); (case a2 => kaf_pre); (case a3 => kaf_pre); (case a4 => kaf_pre); k_whole); intro v9 nl9 h9 tk9 P9; obtain ⟨t9, rfl, rfl⟩ := P9; intro F9 N9 ND9; dsimp only [List.cons_append, List.nil_append] at N9 ND9; (try k_sweep); (try dsimp only)))))) | walk1 | (dsimp only; walk1) | (leave1; (try dsimp only)) | fail "no step"))
  all_goals (try dsimp only)
  all_goals (refine wpG_execs_consA ?_)
  all_goals (repeat' (first | (k_unfold; (try dsimp only)) | (k_end; wrow_close) | ((with_reducible show wpAny _ _ (eval (Expr.Name _ _) _) _ _ _); first | ((k_here; (with_reducible first | (refine nmL (by first | exact nf997.1 | exact nf997.2.1 | exact nf997.2.2.1 | exact nf997.2.2.2.1 | exact nf997.2.2.2.2.1 | exact nf997.2.2.2.2.2.1 | exact nf997.2.2.2.2.2.2.1) (by k_asm) (by k_dflt (exact Eq.refl (some _))) ?_) | (refine nmK nf997.2.2.2.2.2.2.2.1 (gk_is_at_most _) (by k_asm) (by k_asm) (by k_asm) ?_) | (refine nmK nf997.2.2.2.2.2.2.2.2.1 (gk_plus _) (by k_asm) (by k_asm) (by k_asm) ?_) | (refine nmB nf997.2.2.2.2.2.2.2.2.2.1 (bk_len _) (by k_asm) (by k_asm) (by k_asm) ?_))))) | walk1 | (dsimp only; walk1) | (leave1; (try dsimp only)) | fail "no step"))
  all_goals (try dsimp only)
  all_goals (refine wpG_execs_consA ?_)
  all_goals (repeat' (first | (k_unfold; (try dsimp only)) | (k_end; wrow_close) | ((with_reducible show wpAny _ _ (eval (Expr.Name _ _) _) _ _ _); first | ((k_here; (with_reducible first | (refine nmL (by first | exact nf997.1 | exact nf997.2.1 | exact nf997.2.2.1 | exact nf997.2.2.2.1 | exact nf997.2.2.2.2.1 | exact nf997.2.2.2.2.2.1 | exact nf997.2.2.2.2.2.2.1) (by k_asm) (by k_dflt (exact Eq.refl (some _))) ?_) | (refine nmK nf997.2.2.2.2.2.2.2.1 (gk_is_at_most _) (by k_asm) (by k_asm) (by k_asm) ?_) | (refine nmK nf997.2.2.2.2.2.2.2.2.1 (gk_plus _) (by k_asm) (by k_asm) (by k_asm) ?_) | (refine nmB nf997.2.2.2.2.2.2.2.2.2.1 (bk_len _) (by k_asm) (by k_asm) (by k_asm) ?_))))) | walk1 | (dsimp only; walk1) | (leave1; (try dsimp only)) | fail "no step"))
  all_goals (try dsimp only)
  all_goals (refine wpG_execs_consA ?_)
  all_goals (repeat' (first | (k_unfold; (try dsimp only)) | (k_end; wrow_close) | ((with_reducible show wpAny _ _ (eval (Expr.Name _ _) _) _ _ _); first | ((k_here; (with_reducible first | (refine nmL (by first | exact nf997.1 | exact nf997.2.1 | exact nf997.2.2.1 | exact nf997.2.2.2.1 | exact nf997.2.2.2.2.1 | exact nf997.2.2.2.2.2.1 | exact nf997.2.2.2.2.2.2.1) (by k_asm) (by k_dflt (exact Eq.refl (some _))) ?_) | (refine nmK nf997.2.2.2.2.2.2.2.1 (gk_is_at_most _) (by k_asm) (by k_asm) (by k_asm) ?_) | (refine nmK nf997.2.2.2.2.2.2.2.2.1 (gk_plus _) (by k_asm) (by k_asm) (by k_asm) ?_) | (refine nmB nf997.2.2.2.2.2.2.2.2.2.1 (bk_len _) (by k_asm) (by k_asm) (by k_asm) ?_))))) | ((with_reducible show wpAny _ _ (call (Value.ref _) _) _ _ _); first | (((with_reducible show wpAny _ _ (call (Value.ref 891) _) _ _ _); k_dflt (first | ((refine Sp.use (put_sp _ _ _ _ _ _ _ _ _ _ _ _ _ _ ?a1 ?a2 ?a3) (by k_asm) (by k_asm) (by k_asm) (by k_asm) (by k_asm) rfl rfl rfl rfl (nb rfl) (nb rfl) (by ktr_rel) ?znd ?_; (case znd => k_allIn); (case a1 => kaf_pre); (case a2 => kaf_pre); (case a3 => kaf_pre); k_whole); intro v9 nl9 h9 tk9 P9; obtain ⟨pl9, j91, j92, j93, tp9, t96, t97, n9, m9, rfl⟩ := P9; intro F9 N9 ND9; dsimp only [List.cons_append, List.nil_append] at N9 ND9; (try k_sweep); (try dsimp only)))))) | walk1 | (dsimp only; walk1) | (leave1; (try dsimp only)) | fail "no step"))
  all_goals (try dsimp only)
  all_goals first | (exfalso; with_reducible contradiction) | (exfalso; (with_reducible rename (bne _ _) = false => q9); rw [hn] at q9; cases q9; done) | (exfalso; (with_reducible rename (bne _ _) = true => q9); revert q9; simp; done) | skip
  all_goals (refine wpG_execs_cons (wpG_Assign_Name (wpG_MethodCall ?_)))
  all_goals (repeat' (first | (k_unfold; (try dsimp only)) | (k_end; wrow_close) | ((with_reducible show wpAny _ _ (eval (Expr.Name _ _) _) _ _ _); first | ((k_here; (with_reducible first | (refine nmL (by first | exact nf997.1 | exact nf997.2.1 | exact nf997.2.2.1 | exact nf997.2.2.2.1 | exact nf997.2.2.2.2.1 | exact nf997.2.2.2.2.2.1 | exact nf997.2.2.2.2.2.2.1) (by k_asm) (by k_dflt (exact Eq.refl (some _))) ?_) | (refine nmK nf997.2.2.2.2.2.2.2.1 (gk_is_at_most _) (by k_asm) (by k_asm) (by k_asm) ?_) | (refine nmK nf997.2.2.2.2.2.2.2.2.1 (gk_plus _) (by k_asm) (by k_asm) (by k_asm) ?_) | (refine nmB nf997.2.2.2.2.2.2.2.2.2.1 (bk_len _) (by k_asm) (by k_asm) (by k_asm) ?_))))) | walk1 | (dsimp only; walk1) | (leave1; (try dsimp only)) | fail "no step"))
  all_goals (try dsimp only)
  all_goals (with_reducible rename Fr _ _ _ _ => hf)
  all_goals (refine wpG_callK0 X (by k_is) hf ?_)
  all_goals (with_reducible rename News _ _ _ _ => hh)
  all_goals (refine SpG.useP B hf X hh T rfl rfl rfl rfl (by ktr_rel) ?znd (gather1_sp _ _ _ _ _ _ _ _ _ _ _ _ _ _ _ _ _ _ _ _ _ _ _ (by exact (RcD.of rfl)) ?a1 ?a2 ?a3) (nb rfl) (nb rfl) ?_)
  case znd => k_allIn
  (case a1 => kaf_pre); (case a2 => kaf_pre); (case a3 => kaf_pre);
  intro v9 nl9 h9 tk9 P9 F9 N9 ND9
  obtain ⟨oR9, b9, n9, t9, rfl, hb9, hR9, rfl⟩ := P9
  clear hf hh
  dsimp only [List.cons_append, List.nil_append] at N9 ND9
  try dsimp only
  k_steps
  all_goals (try dsimp only)
  all_goals (refine wpG.of ?_)
  all_goals (repeat' (first | (k_unfold; (try dsimp only)) | (k_end; wrow_close) | ((with_reducible show wpAny _ _ (eval (Expr.Name _ _) _) _ _ _); first | ((k_here; (with_reducible first | (refine nmL (by first | exact nf997.1 | exact nf997.2.1 | exact nf997.2.2.1 | exact nf997.2.2.2.1 | exact nf997.2.2.2.2.1 | exact nf997.2.2.2.2.2.1 | exact nf997.2.2.2.2.2.2.1) (by k_asm) (by k_dflt (exact Eq.refl (some _))) ?_) | (refine nmK nf997.2.2.2.2.2.2.2.1 (gk_is_at_most _) (by k_asm) (by k_asm) (by k_asm) ?_) | (refine nmK nf997.2.2.2.2.2.2.2.2.1 (gk_plus _) (by k_asm) (by k_asm) (by k_asm) ?_) | (refine nmB nf997.2.2.2.2.2.2.2.2.2.1 (bk_len _) (by k_asm) (by k_asm) (by k_asm) ?_))))) | walk1 | (dsimp only; walk1) | (leave1; (try dsimp only)) | fail "no step"))
  all_goals (try dsimp only)
  all_goals (try k_unfold)
  all_goals (try dsimp only)
  all_goals (try k_unfold)
  all_goals (try dsimp only)
  all_goals (try k_unfold)
  all_goals (try dsimp only)
  all_goals (try (dsimp only))
  all_goals (with_reducible rename Fr _ _ _ _ => hf)
  all_goals (with_reducible rename News _ _ _ _ => hh)
  all_goals (try simp only [beq_self_eq_true] at hh)
  all_goals (refine ret2 _ _ _ _ _ hf (news_pick hh (by ktr_rel)) ⟨_, oR9, b9, _, _, _, _, _, _, _, rfl, hb9, hR9, rfl⟩ ?_)
  all_goals k_allIn
inductive P_arrive0_sp (w : World) (x : Addr) (d : Addr) (S : Addr) (am : Addr) (ad : Addr) (b : Array UInt8) (ring : Int) (room : Int) (mss : Int) (p : Int) (e : Int) (v : Value) (nl : List (Addr × Obj)) : Prop where
  | mk (tup : _) (oR' : _) (b' : _) (pl : _) (j1 : _) (j2 : _) (j3 : _) (n : _) (m : _) (t : _) (hh1 : v = .ref tup) (hh2 : b'.size = b.size + (#[] : Array UInt8).size) (hh3 : RcD w ring room mss (p + (#[] : Array UInt8).size) e S am oR') (hh4 : nl = [(tup, tupO [.int (#[] : Array UInt8).size t, .bool true] m), (x, instObj 1077 d), (d, oR'), (S, baO b'), (am, instObj 943 ad), (ad, asO w j1 j2 j3 ring pl), (pl, listO [] n)]) : P_arrive0_sp w x d S am ad b ring room mss p e v nl
theorem arrive0_sp (w : World) (x d S am ad pl : Addr) (oR : Obj) (j1 j2 j3 ts tc : Tok) (n : Nat) (b : Array UInt8) (ring room mss p e : Int) (h : RcD w ring room mss p e S am oR) (hr : ring = 256 ∨ ring = 4294967296) (hb : b.size ≤ 70000) (hpe : p ≤ e) (hpr : 2 * (e - p) < ring)  :
    SpG w 750 3750 997 [.ref x, .int (Int.fmod p ring) ts, .bytes (#[] : Array UInt8) tc, .bool false] [(x, instObj 1077 d), (d, oR), (S, baO b), (am, instObj 943 ad), (ad, asO w j1 j2 j3 ring pl), (pl, listO [] n)] (P_arrive0_sp w x d S am ad b ring room mss p e) := by
  obtain ⟨k1Z, rfl⟩ := h
  refine SpG.enter (binds := [("self", .ref x), ("seq", .int (Int.fmod p ring) ts), ("octets", .bytes (#[] : Array UInt8) tc), ("has_fin", .bool false)]) (by k_is) (by k_is) (by decide) (fun s X => BindsTo.of_eq rfl) (locs rfl) ?_
  intro env outer base g mean mg mb L' h₁ s Q E B X T F N ND ret
  obtain ⟨n_x_d, n_x_S, n_x_am, n_x_ad, n_x_pl, n_d_S, n_d_am, n_d_ad, n_d_pl, n_S_am, n_S_ad, n_S_pl, n_am_ad, n_am_pl, n_ad_pl⟩ := nn6 ND
  obtain r0 : ring ≠ 0 := by omega
  obtain hn : ((#[] : Array UInt8).toList != (#[] : Array UInt8).toList) = false := rfl
  obtain z0 : (#[] : Array UInt8).size = 0 := rfl
  refine wpG_execs_consA ?_
  revert hr hb hpe hpr B X T F N ND ret n_x_d n_x_S n_x_am n_x_ad n_x_pl n_d_S n_d_am n_d_ad n_d_pl n_S_am n_S_ad n_S_pl n_am_ad n_am_pl n_ad_pl r0 hn z0
  revert w x d S am ad pl j1 j2 j3 ts tc n b ring room mss p e k1Z env outer base g mean mg mb L' h₁ s Q E
  refine eps32 (by repeat' (first | refine @instNonemptyProd _ _ ?_ ?_ | infer_instance | exact neW | exact neS | exact neRcZ)) ?_
  intro hr hb hpe hpr B X T F N ND ret n_x_d n_x_S n_x_am n_x_ad n_x_pl n_d_S n_d_am n_d_ad n_d_pl n_S_am n_S_ad n_S_pl n_am_ad n_am_pl n_ad_pl r0 hn z0
  have ND9 := ND
  have ret2 := fun v nl h tk m a b c d => ret v nl h tk m c a b d
  (repeat' (first | (k_unfold; (try dsimp only)) | (k_end; wrow_close) | ((with_reducible show wpAny _ _ (eval (Expr.Name _ _) _) _ _ _); first | ((k_here; (with_reducible first | (refine nmL (by first | exact nf997.1 | exact nf997.2.1 | exact nf997.2.2.1 | exact nf997.2.2.2.1 | exact nf997.2.2.2.2.1 | exact nf997.2.2.2.2.2.1 | exact nf997.2.2.2.2.2.2.1) (by k_asm) (by k_dflt (exact Eq.refl (some _))) ?_) | (refine nmK nf997.2.2.2.2.2.2.2.1 (gk_is_at_most _) (by k_asm) (by k_asm) (by k_asm) ?_) | (refine nmK nf997.2.2.2.2.2.2.2.2.1 (gk_plus _) (by k_asm) (by k_asm) (by k_asm) ?_) | (refine nmB nf997.2.2.2.2.2.2.2.2.2.1 (bk_len _) (by k_asm) (by k_asm) (by k_asm) ?_))))) | ((with_reducible show wpAny _ _ (call (Value.ref _) _) _ _ _); first | (((with_reducible show wpAny _ _ (call (Value.ref 183) _) _ _ _); k_dflt (first | ((refine Sp.use (beforeT_sp _ _ _ _ _ _ _ ?a1 ?a2 ?a3) (by k_asm) (by k_asm) (by k_asm) (by k_asm) (by k_asm) rfl rfl rfl rfl (nb rfl) (nb rfl) (by ktr_rel) ?znd ?_; (case znd => k_allIn); (case a1 => kaf_pre); (case a2 => kaf_pre); (case a3 => kaf_pre); k_whole); intro v9 nl9 h9 tk9 P9; obtain ⟨rfl, rfl⟩ := P9; intro F9 N9 ND9; dsimp only [List.cons_append, List.nil_append] at N9 ND9; (try k_sweep); (try dsimp only)))))) | walk1 | (dsimp only; walk1) | (leave1; (try dsimp only)) | fail "no step"))
  all_goals (try dsimp only)
  all_goals first | (exfalso; with_reducible contradiction) | (exfalso; (with_reducible rename (bne _ _) = false => q9); rw [hn] at q9; cases q9; done) | (exfalso; (with_reducible rename (bne _ _) = true => q9); revert q9; simp; done) | skip
  all_goals (refine wpG_execs_consA ?_)
  all_goals (repeat' (first | (k_unfold; (try dsimp only)) | (k_end; wrow_close) | ((with_reducible show wpAny _ _ (eval (Expr.Name _ _) _) _ _ _); first | ((k_here; (with_reducible first | (refine nmL (by first | exact nf997.1 | exact nf997.2.1 | exact nf997.2.2.1 | exact nf997.2.2.2.1 | exact nf997.2.2.2.2.1 | exact nf997.2.2.2.2.2.1 | exact nf997.2.2.2.2.2.2.1) (by k_asm) (by k_dflt (exact Eq.refl (some _))) ?_) | (refine nmK nf997.2.2.2.2.2.2.2.1 (gk_is_at_most _) (by k_asm) (by k_asm) (by k_asm) ?_) | (refine nmK nf997.2.2.2.2.2.2.2.2.1 (gk_plus _) (by k_asm) (by k_asm) (by k_asm) ?_) | (refine nmB nf997.2.2.2.2.2.2.2.2.2.1 (bk_len _) (by k_asm) (by k_asm) (by k_asm) ?_))))) | ((with_reducible show wpAny _ _ (call (Value.ref _) _) _ _ _); first | (((with_reducible show wpAny _ _ (call (Value.ref 1004) _) _ _ _); k_dflt (first | ((refine Sp.useP (by k_asm) (by k_asm) (by k_asm) (by k_asm) (by k_asm) rfl rfl rfl rfl (by ktr_rel) ?znd (letin_sp _ _ _ _ _ _ _ _ _ _ _ _ _ _ _ (by exact (RcD.of rfl)) ?a1 ?a2 ?a3 ?a4) (nb rfl) (nb rfl) ?_; (case znd => k_allIn); (case a1 => kaf_pre); (case a2 => kaf_pre); (case a3 => kaf_pre); (case a4 => kaf_pre); k_whole); intro v9 nl9 h9 tk9 P9; obtain ⟨t9, rfl, rfl⟩ := P9; intro F9 N9 ND9; dsimp only [List.cons_append, List.nil_append] at N9 ND9; (try k_sweep); (try dsimp only)))))) | walk1 | (dsimp only; walk1) | (leave1; (try dsimp only)) | fail "no step"))
  all_goals (try dsimp only)
  all_goals (refine wpG_execs_consA ?_)
  all_goals (repeat' (first | (k_unfold; (try dsimp only)) | (k_end; wrow_close) | ((with_reducible show wpAny _ _ (eval (Expr.Name _ _) _) _ _ _); first | ((k_here; (with_reducible first | (refine nmL (by first | exact nf997.1 | exact nf997.2.1 | exact nf997.2.2.1 | exact nf997.2.2.2.1 | exact nf997.2.2.2.2.1 | exact nf997.2.2.2.2.2.1 | exact nf997.2.2.2.2.2.2.1) (by k_asm) (by k_dflt (exact Eq.refl (some _))) ?_) | (refine nmK nf997.2.2.2.2.2.2.2.1 (gk_is_at_most _) (by k_asm) (by k_asm) (by k_asm) ?_) | (refine nmK nf997.2.2.2.2.2.2.2.2.1 (gk_plus _) (by k_asm) (by k_asm) (by k_asm) ?_) | (refine nmB nf997.2.2.2.2.2.2.2.2.2.1 (bk_len _) (by k_asm) (by k_asm) (by k_asm) ?_))))) | walk1 | (dsimp only; walk1) | (leave1; (try dsimp only)) | fail "no step"))
  all_goals (try dsimp only)
  all_goals (refine wpG_execs_consA ?_)
  all_goals (repeat' (first | (k_unfold; (try dsimp only)) | (k_end; wrow_close) | ((with_reducible show wpAny _ _ (eval (Expr.Name _ _) _) _ _ _); first | ((k_here; (with_reducible first | (refine nmL (by first | exact nf997.1 | exact nf997.2.1 | exact nf997.2.2.1 | exact nf997.2.2.2.1 | exact nf997.2.2.2.2.1 | exact nf997.2.2.2.2.2.1 | exact nf997.2.2.2.2.2.2.1) (by k_asm) (by k_dflt (exact Eq.refl (some _))) ?_) | (refine nmK nf997.2.2.2.2.2.2.2.1 (gk_is_at_most _) (by k_asm) (by k_asm) (by k_asm) ?_) | (refine nmK nf997.2.2.2.2.2.2.2.2.1 (gk_plus _) (by k_asm) (by k_asm) (by k_asm) ?_) | (refine nmB nf997.2.2.2.2.2.2.2.2.2.1 (bk_len _) (by k_asm) (by k_asm) (by k_asm) ?_))))) | walk1 | (dsimp only; walk1) | (leave1; (try dsimp only)) | fail "no step"))
  all_goals (try dsimp only)
  all_goals (refine wpG_execs_consA ?_)
  all_goals (repeat' (first | (k_unfold; (try dsimp only)) | (k_end; wrow_close) | ((with_reducible show wpAny _ _ (eval (Expr.Name _ _) _) _ _ _); first | ((k_here; (with_reducible first | (refine nmL (by first | exact nf997.1 | exact nf997.2.1 | exact nf997.2.2.1 | exact nf997.2.2.2.1 | exact nf997.2.2.2.2.1 | exact nf997.2.2.2.2.2.1 | exact nf997.2.2.2.2.2.2.1) (by k_asm) (by k_dflt (exact Eq.refl (some _))) ?_) | (refine nmK nf997.2.2.2.2.2.2.2.1 (gk_is_at_most _) (by k_asm) (by k_asm) (by k_asm) ?_) | (refine nmK nf997.2.2.2.2.2.2.2.2.1 (gk_plus _) (by k_asm) (by k_asm) (by k_asm) ?_) | (refine nmB nf997.2.2.2.2.2.2.2.2.2.1 (bk_len _) (by k_asm) (by k_asm) (by k_asm) ?_))))) | walk1 | (dsimp only; walk1) | (leave1; (try dsimp only)) | fail "no step"))
  all_goals (try dsimp only)
  all_goals first | (exfalso; with_reducible contradiction) | (exfalso; (with_reducible rename (bne _ _) = false => q9); rw [hn] at q9; cases q9; done) | (exfalso; (with_reducible rename (bne _ _) = true => q9); revert q9; simp; done) | skip
  all_goals (refine wpG_execs_cons (wpG_Assign_Name (wpG_MethodCall ?_)))
  all_goals (repeat' (first | (k_unfold; (try dsimp only)) | (k_end; wrow_close) | ((with_reducible show wpAny _ _ (eval (Expr.Name _ _) _) _ _ _); first | ((k_here; (with_reducible first | (refine nmL (by first | exact nf997.1 | exact nf997.2.1 | exact nf997.2.2.1 | exact nf997.2.2.2.1 | exact nf997.2.2.2.2.1 | exact nf997.2.2.2.2.2.1 | exact nf997.2.2.2.2.2.2.1) (by k_asm) (by k_dflt (exact Eq.refl (some _))) ?_) | (refine nmK nf997.2.2.2.2.2.2.2.1 (gk_is_at_most _) (by k_asm) (by k_asm) (by k_asm) ?_) | (refine nmK nf997.2.2.2.2.2.2.2.2.1 (gk_plus _) (by k_asm) (by k_asm) (by k_asm) ?_) | (refine nmB nf997.2.2.2.2.2.2.2.2.2.1 (bk_len _) (by k_asm) (by k_asm) (by k_asm) ?_))))) | walk1 | (dsimp only; walk1) | (leave1; (try dsimp only)) | fail "no step"))
  all_goals (try dsimp only)
  all_goals (with_reducible rename Fr _ _ _ _ => hf)
  all_goals (refine wpG_callK0 X (by k_is) hf ?_)
  all_goals (with_reducible rename News _ _ _ _ => hh)
  all_goals (refine SpG.useP B hf X hh T rfl rfl rfl rfl (by ktr_rel) ?znd (gather0_sp _ _ _ _ _ _ _ _ _ _ _ _ _ _ _ _ _ _ (by exact (RcD.of rfl)) ?a1 ?a2) (nb rfl) (nb rfl) ?_)
  case znd => k_allIn
  (case a1 => kaf_pre); (case a2 => kaf_pre);
  intro v9 nl9 h9 tk9 P9 F9 N9 ND9
  obtain ⟨oR9, b9, n9, t9, rfl, hb9, hR9, rfl⟩ := P9
  clear hf hh
  dsimp only [List.cons_append, List.nil_append] at N9 ND9
  try dsimp only
  k_steps
  all_goals (try dsimp only)
  all_goals (refine wpG.of ?_)
  all_goals (repeat' (first | (k_unfold; (try dsimp only)) | (k_end; wrow_close) | ((with_reducible show wpAny _ _ (eval (Expr.Name _ _) _) _ _ _); first | ((k_here; (with_reducible first | (refine nmL (by first | exact nf997.1 | exact nf997.2.1 | exact nf997.2.2.1 | exact nf997.2.2.2.1 | exact nf997.2.2.2.2.1 | exact nf997.2.2.2.2.2.1 | exact nf997.2.2.2.2.2.2.1) (by k_asm) (by k_dflt (exact Eq.refl (some _))) ?_) | (refine nmK nf997.2.2.2.2.2.2.2.1 (gk_is_at_most _) (by k_asm) (by k_asm) (by k_asm) ?_) | (refine nmK nf997.2.2.2.2.2.2.2.2.1 (gk_plus _) (by k_asm) (by k_asm) (by k_asm) ?_) | (refine nmB nf997.2.2.2.2.2.2.2.2.2.1 (bk_len _) (by k_asm) (by k_asm) (by k_asm) ?_))))) | walk1 | (dsimp only; walk1) | (leave1; (try dsimp only)) | fail "no step"))
  all_goals (try dsimp only)
  all_goals (try k_unfold)
  all_goals (try dsimp only)
  all_goals (try k_unfold)
  all_goals (try dsimp only)
  all_goals (try k_unfold)
  all_goals (try dsimp only)
  all_goals (try (dsimp only))
  all_goals (with_reducible rename Fr _ _ _ _ => hf)
  all_goals (with_reducible rename News _ _ _ _ => hh)
  all_goals (try simp only [beq_self_eq_true] at hh)
  all_goals (refine ret2 _ _ _ _ _ hf (news_pick hh (by ktr_rel)) ⟨_, oR9, b9, _, _, _, _, _, _, _, rfl, hb9, hR9, rfl⟩ ?_)
  all_goals k_allIn
end Mine
end PartR9
section PartR10
theorem Mine.flush23 : True := by first | (w_top off; walk1) | trivial
open PySem PySem.W PySem.Calls PyProof.Rows
set_option Elab.async false
set_option maxRecDepth 100000
set_option maxHeartbeats 4000000
set_option rowWalk.seconds 0
set_option pp.maxSteps 6000
namespace Mine

theorem wpG_callType0 {M : Model} {A : Around} {E : Value → Shared → Prop} {s : Shared} {env : Env} {pos : Pos} {T : String} {Q : Value → Shared → Prop} (h : wpG M A (call (.type T) []) Q E s) :
    wpG M A (callWith pos (.type T) [] (backTo pos (starEach [] env)) []) Q E s := by
  show wpG M A (callWith pos (.type T) [] [] []) Q E s
  unfold callWith
  refine wpG_bindA (wpAny_holding (PyProof.Rows.evalArgs_none (wpG_bindA (wpAny_standAt ?_))))
  simp only [List.any_nil, Bool.or_false]
  refine wpG_bindA (wpAny_pure ?_)
  exact wpG_bind (wpG_mono h (fun r s₂ hr => wpG.of (wpAny_bind (wpAny_holding (wpAny_point (wpAny_pure hr))))) fun _ _ x => x)
inductive P_rcinit_sp (w : World) (x : Addr) (d : Addr) (irs : Int) (ring : Int) (room : Int) (mss : Int) (v : Value) (nl : List (Addr × Obj)) : Prop where
  | mk (S : _) (am : _) (ad : _) (pl : _) (oR : _) (j1 : _) (j2 : _) (j3 : _) (n : _) (hh1 : v = .none) (hh2 : RcD w ring room mss (irs + 1) (irs + 1 + room) S am oR) (hh3 : nl = [(x, instObj 1077 d), (d, oR), (S, baO #[]), (am, instObj 943 ad), (ad, asO w j1 j2 j3 ring pl), (pl, listO [] n)]) : P_rcinit_sp w x d irs ring room mss v nl
theorem rcinit_sp (w : World) (x d : Addr) (irs ring room mss : Int) (t6 t7 t8 t9 : Tok) (hr : ring = 256 ∨ ring = 4294967296) :
    SpG w 740 3700 962 [.ref x, .int irs t6, .int ring t7, .int room t8, .int mss t9] [(x, instObj 1077 d), (d, dictOf [] 0)] (P_rcinit_sp w x d irs ring room mss) := by
  refine SpG.enter (binds := [("self", .ref x), ("irs", .int irs t6), ("ring", .int ring t7), ("room", .int room t8), ("mss", .int mss t9)]) (by k_is) (by k_is) (by decide) (fun s X => binds_K X rfl (by k_is) rfl rfl rfl) (locs rfl) ?_
  intro env outer base g mean mg mb L' h₁ s Q E B X T F N ND ret
  obtain ⟨n_x_d⟩ := nn2 ND
  obtain r0 : ring ≠ 0 := by omega
  refine wpG_execs_consA ?_
  revert hr B X T F N ND ret n_x_d r0
  revert w x d irs ring room mss t6 t7 t8 t9 env outer base g mean mg mb L' h₁ s Q E
  (iterate 1 (refine dum ?_))
  refine eps24 (by repeat' (first | refine @instNonemptyProd _ _ ?_ ?_ | infer_instance | exact neW | exact neS)) ?_
  intro hr B X T F N ND ret n_x_d r0
  have ret2 := fun v nl h tk m a b c d => ret v nl h tk m c a b d
  (repeat' (first | (k_unfold; (try dsimp only)) | (k_end; wrow_close) | ((with_reducible show wpAny _ _ (eval (Expr.Name _ _) _) _ _ _); first | ((k_here; (with_reducible first | (refine nmL (by first | exact nf962.1 | exact nf962.2.1 | exact nf962.2.2.1 | exact nf962.2.2.2.1 | exact nf962.2.2.2.2.1) (by k_asm) (by k_dflt (exact Eq.refl (some _))) ?_) | (refine nmK nf962.2.2.2.2.2.1 (gk_plus _) (by k_asm) (by k_asm) (by k_asm) ?_) | (refine nmK nf962.2.2.2.2.2.2.1 (gk_Assembly _) (by k_asm) (by k_asm) (by k_asm) ?_) | (refine nmB nf962.2.2.2.2.2.2.2.1 (bk_bytearray _) (by k_asm) (by k_asm) (by k_asm) ?_))))) | walk1 | (dsimp only; walk1) | (leave1; (try dsimp only)) | fail "no step"))
  all_goals (try dsimp only)
  all_goals (refine wpG_execs_consA ?_)
  all_goals (repeat' (first | (k_unfold; (try dsimp only)) | (k_end; wrow_close) | ((with_reducible show wpAny _ _ (eval (Expr.Name _ _) _) _ _ _); first | ((k_here; (with_reducible first | (refine nmL (by first | exact nf962.1 | exact nf962.2.1 | exact nf962.2.2.1 | exact nf962.2.2.2.1 | exact nf962.2.2.2.2.1) (by k_asm) (by k_dflt (exact Eq.refl (some _))) ?_) | (refine nmK nf962.2.2.2.2.2.1 (gk_plus _) (by k_asm) (by k_asm) (by k_asm) ?_) | (refine nmK nf962.2.2.2.2.2.2.1 (gk_Assembly _) (by k_asm) (by k_asm) (by k_asm) ?_) | (refine nmB nf962.2.2.2.2.2.2.2.1 (bk_bytearray _) (by k_asm) (by k_asm) (by k_asm) ?_))))) | walk1 | (dsimp only; walk1) | (leave1; (try dsimp only)) | fail "no step"))
  all_goals (try dsimp only)
  all_goals (refine wpG_execs_consA ?_)
  all_goals (repeat' (first | (k_unfold; (try dsimp only)) | (k_end; wrow_close) | ((with_reducible show wpAny _ _ (eval (Expr.Name _ _) _) _ _ _); first | ((k_here; (with_reducible first | (refine nmL (by first | exact nf962.1 | exact nf962.2.1 | exact nf962.2.2.1 | exact nf962.2.2.2.1 | exact nf962.2.2.2.2.1) (by k_asm) (by k_dflt (exact Eq.refl (some _))) ?_) | (refine nmK nf962.2.2.2.2.2.1 (gk_plus _) (by k_asm) (by k_asm) (by k_asm) ?_) | (refine nmK nf962.2.2.2.2.2.2.1 (gk_Assembly _) (by k_asm) (by k_asm) (by k_asm) ?_) | (refine nmB nf962.2.2.2.2.2.2.2.1 (bk_bytearray _) (by k_asm) (by k_asm) (by k_asm) ?_))))) | walk1 | (dsimp only; walk1) | (leave1; (try dsimp only)) | fail "no step"))
  all_goals (try dsimp only)
  all_goals (refine wpG_execs_consA ?_)
  all_goals (repeat' (first | (k_unfold; (try dsimp only)) | (k_end; wrow_close) | ((with_reducible show wpAny _ _ (eval (Expr.Name _ _) _) _ _ _); first | ((k_here; (with_reducible first | (refine nmL (by first | exact nf962.1 | exact nf962.2.1 | exact nf962.2.2.1 | exact nf962.2.2.2.1 | exact nf962.2.2.2.2.1) (by k_asm) (by k_dflt (exact Eq.refl (some _))) ?_) | (refine nmK nf962.2.2.2.2.2.1 (gk_plus _) (by k_asm) (by k_asm) (by k_asm) ?_) | (refine nmK nf962.2.2.2.2.2.2.1 (gk_Assembly _) (by k_asm) (by k_asm) (by k_asm) ?_) | (refine nmB nf962.2.2.2.2.2.2.2.1 (bk_bytearray _) (by k_asm) (by k_asm) (by k_asm) ?_))))) | ((with_reducible show wpAny _ _ (call (Value.ref _) _) _ _ _); first | (((with_reducible show wpAny _ _ (call (Value.ref 169) _) _ _ _); k_dflt (first | ((refine Sp.use (plus0_sp _ _ _ _ _ _ _ ?a1) (by k_asm) (by k_asm) (by k_asm) (by k_asm) (by k_asm) rfl rfl rfl rfl (nb rfl) (nb rfl) (by ktr_rel) ?znd ?_; (case znd => k_allIn); (case a1 => kaf_pre); k_whole); intro v9 nl9 h9 tk9 P9; obtain ⟨t9, rfl, rfl⟩ := P9; intro F9 N9 ND9; dsimp only [List.cons_append, List.nil_append] at N9 ND9; (try k_sweep); (try dsimp only)))))) | walk1 | (dsimp only; walk1) | (leave1; (try dsimp only)) | fail "no step"))
  all_goals (try dsimp only)
  all_goals (refine wpG_execs_cons (wpG_Assign_Attribute (wpG_Call ?_)))
  all_goals (repeat' (first | (k_unfold; (try dsimp only)) | (k_end; wrow_close) | ((with_reducible show wpAny _ _ (eval (Expr.Name _ _) _) _ _ _); first | ((k_here; (with_reducible first | (refine nmL (by first | exact nf962.1 | exact nf962.2.1 | exact nf962.2.2.1 | exact nf962.2.2.2.1 | exact nf962.2.2.2.2.1) (by k_asm) (by k_dflt (exact Eq.refl (some _))) ?_) | (refine nmK nf962.2.2.2.2.2.1 (gk_plus _) (by k_asm) (by k_asm) (by k_asm) ?_) | (refine nmK nf962.2.2.2.2.2.2.1 (gk_Assembly _) (by k_asm) (by k_asm) (by k_asm) ?_) | (refine nmB nf962.2.2.2.2.2.2.2.1 (bk_bytearray _) (by k_asm) (by k_asm) (by k_asm) ?_))))) | walk1 | (dsimp only; walk1) | (leave1; (try dsimp only)) | fail "no step"))
  all_goals (try dsimp only)
  all_goals (refine wpG_callType0 ?_)
  all_goals (with_reducible rename Fr _ _ _ _ => hf)
  all_goals (with_reducible rename News _ _ _ _ => hh)
  all_goals (refine call_ba_K hf hh ?_; intro D' h' F' N' l1; clear hf hh; (try k_lt l1))
  all_goals (repeat' (first | (k_unfold; (try dsimp only)) | (k_end; wrow_close) | ((with_reducible show wpAny _ _ (eval (Expr.Name _ _) _) _ _ _); first | ((k_here; (with_reducible first | (refine nmL (by first | exact nf962.1 | exact nf962.2.1 | exact nf962.2.2.1 | exact nf962.2.2.2.1 | exact nf962.2.2.2.2.1) (by k_asm) (by k_dflt (exact Eq.refl (some _))) ?_) | (refine nmK nf962.2.2.2.2.2.1 (gk_plus _) (by k_asm) (by k_asm) (by k_asm) ?_) | (refine nmK nf962.2.2.2.2.2.2.1 (gk_Assembly _) (by k_asm) (by k_asm) (by k_asm) ?_) | (refine nmB nf962.2.2.2.2.2.2.2.1 (bk_bytearray _) (by k_asm) (by k_asm) (by k_asm) ?_))))) | walk1 | (dsimp only; walk1) | (leave1; (try dsimp only)) | fail "no step"))
  all_goals (try dsimp only)
  all_goals (refine wpG.of ?_)
  all_goals (repeat' (first | (k_unfold; (try dsimp only)) | (k_end; wrow_close) | ((with_reducible show wpAny _ _ (eval (Expr.Name _ _) _) _ _ _); first | ((k_here; (with_reducible first | (refine nmL (by first | exact nf962.1 | exact nf962.2.1 | exact nf962.2.2.1 | exact nf962.2.2.2.1 | exact nf962.2.2.2.2.1) (by k_asm) (by k_dflt (exact Eq.refl (some _))) ?_) | (refine nmK nf962.2.2.2.2.2.1 (gk_plus _) (by k_asm) (by k_asm) (by k_asm) ?_) | (refine nmK nf962.2.2.2.2.2.2.1 (gk_Assembly _) (by k_asm) (by k_asm) (by k_asm) ?_) | (refine nmB nf962.2.2.2.2.2.2.2.1 (bk_bytearray _) (by k_asm) (by k_asm) (by k_asm) ?_))))) | ((with_reducible show wpAny _ _ (call (Value.ref _) _) _ _ _); first | (((with_reducible show wpAny _ _ (call (Value.ref 169) _) _ _ _); k_dflt (first | ((refine Sp.use (plus_sp _ _ _ _ _ _ _ ?a1) (by k_asm) (by k_asm) (by k_asm) (by k_asm) (by k_asm) rfl rfl rfl rfl (nb rfl) (nb rfl) (by ktr_rel) ?znd ?_; (case znd => k_allIn); (case a1 => kaf_pre); k_whole); intro v9 nl9 h9 tk9 P9; obtain ⟨t9, rfl, rfl⟩ := P9; intro F9 N9 ND9; dsimp only [List.cons_append, List.nil_append] at N9 ND9; (try k_sweep); (try dsimp only)))))) | walk1 | (dsimp only; walk1) | (leave1; (try dsimp only)) | fail "no step"))
  all_goals (try dsimp only)
  all_goals (try k_unfold)
  all_goals (try dsimp only)
  all_goals (try k_unfold)
  all_goals (try dsimp only)
  all_goals (try k_unfold)
  all_goals (try dsimp only)
  all_goals (try (dsimp only))
  all_goals (with_reducible rename Fr _ _ _ _ => hf)
  all_goals (with_reducible rename News _ _ _ _ => hh)
  all_goals (refine ret2 _ _ _ _ _ hf (news_pick hh (by ktr_rel)) ⟨_, _, _, _, _, _, _, _, _, rfl, (RcD.of rfl), rfl⟩ ?_)
  all_goals k_allIn
end Mine
end PartR10
end SecRX
theorem Mine.flush24 : True := by first | (w_top off; walk1) | trivial
end SecR
theorem Mine.flush25 : True := by first | (w_top off; walk1) | trivial
section PartJm
open PySem PySem.W PySem.Calls PyProof.Rows PyProof.V PySem.Spec PySem.SeqAt
set_option Elab.async false
set_option maxRecDepth 100000
set_option maxHeartbeats 400000
namespace Mine
section
variable {M : Model} {A : Around} {E : Value → Shared → Prop} {s : Shared} {h₀ : Heap} {L : Addr} {m : PySem.Str → Option Value} {news : List (Addr × Obj)}
theorem nd_push {o : Obj} (N : News h₀ L s.heap news) (nd : (news.map (·.1)).Nodup) : (((s.heap.objs.size, o) :: news).map (·.1)).Nodup := by
  rw [List.map_cons, List.nodup_cons]
  refine ⟨fun q => ?_, nd⟩
  obtain ⟨p, hp, e⟩ := List.mem_map.mp q
  exact Nat.lt_irrefl _ (e ▸ Heap.lt_size (N p hp).1)
theorem newList_ND {vs : List Value} {Q : Value → Shared → Prop} (F : Fr h₀ L s.heap m) (N : News h₀ L s.heap news) (nd : (news.map (·.1)).Nodup) (hsz : vs.length ≤ 100)
    (h : ∀ D' h', Fr h₀ L h' m → News h₀ L h' ((D', listO vs 0) :: news) → (((D', listO vs 0) :: news).map (·.1)).Nodup → Q (.ref D') { s with heap := h' }) : wpAny M A (newList vs) Q E s :=
  newList_N F N (fun h' F' N' => h _ h' F' N' (nd_push N nd)) (by rw [sizeLine_eq]; omega)
theorem newTuple_ND {vs : List Value} {Q : Value → Shared → Prop} (F : Fr h₀ L s.heap m) (N : News h₀ L s.heap news) (nd : (news.map (·.1)).Nodup) (hsz : vs.length ≤ 100)
    (h : ∀ D' h', Fr h₀ L h' m → News h₀ L h' ((D', tupO vs 0) :: news) → (((D', tupO vs 0) :: news).map (·.1)).Nodup → Q (.ref D') { s with heap := h' }) : wpAny M A (newTuple vs) Q E s :=
  newTuple_N F N (fun h' F' N' => h _ h' F' N' (nd_push N nd)) (by rw [sizeLine_eq]; omega)
end
section
variable {prog : Program} {w : World} {K : Type} [DecidableEq K] {knd : KeyKind prog w K} {A : Around} {E : Value → Shared → Prop} {s : Shared} {h₀ : Heap} {L d : Addr} {m : PySem.Str → Option Value} {news : List (Addr × Obj)} {o : Obj} {kvs : List (K × Value)} {k : K} {key v : Value}
theorem kda_setM {rest : List (Addr × Obj)} {Q : Unit → Shared → Prop} (nd : (news.map (·.1)).Nodup) (F : Fr h₀ L s.heap m) (N : News h₀ L s.heap news) (T : Pick [(d, o)] news rest) (hd : o.IsDictOf knd kvs) (hkey : knd.is k key = true) (hsz : kvs.length ≤ sizeLine)
    (h : ∀ h' o', Fr h₀ L h' m → News h₀ L h' ((d, o') :: rest) → (((d, o') :: rest).map (·.1)).Nodup → o'.IsDictOf knd (stored kvs k v) → Q () { s with heap := h', toks := s.toks + 1 }) : wpAny (model prog w) A (setItem (.ref d) key v) Q E s :=
  kda_setN (r := []) nd F N (pick_all news) T hd hkey hsz fun h' o' F' N' hd' => h h' o' F' N' ((T.take.map (·.1)).nodup_iff.mpr nd) hd'
where pick_all : ∀ l : List (Addr × Obj), Pick l l []
  | l => by unfold Pick; rw [List.append_nil]
/-- two tuples of an int and a bool, the same -/
theorem ne_tup2 {l b : Addr} {x y : Int} {t u : Tok} {n k : Nat} {Q : Value → Shared → Prop} (N : News h₀ L s.heap news) (h1 : (l, tupO [.int x t, .bool true] n) ∈ news) (h2 : (b, tupO [.int y u, .bool true] k) ∈ news) (e : x = y) (hu : A.units < cLine)
    (h : Q (.bool false) s) : wpAny (model prog w) A (compareOp .NotEq (.ref l) (.ref b)) Q E s := by
  subst e
  have z := RcNeAt.tuples (A := A) (s := s) (l := l) (b := b) (items := #[.int x t, .bool true]) (items2 := #[.int x u, .bool true]) (e := fun _ => true) ⟨_, N.get h1, rfl, n, rfl⟩ ⟨_, N.get h2, rfl, k, rfl⟩ hu (fun j j1 j2 => by
    match j, j1, j2 with
    | 0, _, _ =>
      have z := EqAt.int_int (A := A.in1) (s := s) x t x u
      rwa [beq_self_eq_true] at z
    | 1, _, _ => exact EqAt.bool_bool true true
    | j + 2, j1, _ => exact absurd j1 (by simp))
  exact z prog w E Q (show Q (.bool false) s from h)
end
inductive P_arrive_sp (w : World) (x : Addr) (d : Addr) (S : Addr) (am : Addr) (ad : Addr) (b : Array UInt8) (c : Array UInt8) (ring : Int) (room : Int) (mss : Int) (p : Int) (e : Int) (v : Value) (nl : List (Addr × Obj)) : Prop where
  | mk (tup : _) (oR' : _) (b' : _) (pl : _) (j1 : _) (j2 : _) (j3 : _) (n : _) (m : _) (t : _) (hh1 : v = .ref tup) (hh2 : b'.size = b.size + c.size) (hh3 : RcD w ring room mss (p + c.size) e S am oR') (hh4 : nl = [(tup, tupO [.int c.size t, .bool true] m), (x, instObj 1077 d), (d, oR'), (S, baO b'), (am, instObj 943 ad), (ad, asO w j1 j2 j3 ring pl), (pl, listO [] n)]) : P_arrive_sp w x d S am ad b c ring room mss p e v nl
theorem arrive_sp (w : World) (x d S am ad pl : Addr) (oR : Obj) (j1 j2 j3 ts tc : Tok) (n : Nat) (b : Array UInt8) (c : Array UInt8) (ring room mss p e : Int) (h : RcD w ring room mss p e S am oR) (hr : ring = 256 ∨ ring = 4294967296) (hb : b.size ≤ 70000) (hpe : p ≤ e) (hpr : 2 * (e - p) < ring) (hc2 : c.size ≤ 100) (hc3 : c.size ≤ e - p) :
    SpG w 750 3750 997 [.ref x, .int (Int.fmod p ring) ts, .bytes c tc, .bool false] [(x, instObj 1077 d), (d, oR), (S, baO b), (am, instObj 943 ad), (ad, asO w j1 j2 j3 ring pl), (pl, listO [] n)] (P_arrive_sp w x d S am ad b c ring room mss p e) := by
  rcases Nat.eq_zero_or_pos c.size with hz | hz
  · obtain rfl := Array.eq_empty_of_size_eq_zero hz
    exact (arrive0_sp w x d S am ad pl oR j1 j2 j3 ts tc n b ring room mss p e h hr hb hpe hpr).mono fun v nl ⟨z0, z1, z2, z3, z4, z5, z6, z7, z8, z9, z10, z11, z12, z13⟩ => ⟨z0, z1, z2, z3, z4, z5, z6, z7, z8, z9, z10, z11, z12, z13⟩
  · exact (arrive1_sp w x d S am ad pl oR j1 j2 j3 ts tc n b c ring room mss p e h hr hb hpe hpr hz hc2 hc3).mono fun v nl ⟨z0, z1, z2, z3, z4, z5, z6, z7, z8, z9, z10, z11, z12, z13⟩ => ⟨z0, z1, z2, z3, z4, z5, z6, z7, z8, z9, z10, z11, z12, z13⟩
end Mine
end PartJm
section PartBj
open PySem PySem.W PySem.Calls PyProof.Rows
set_option Elab.async false
set_option maxRecDepth 100000
set_option maxHeartbeats 400000
namespace Mine
theorem kcl_a (w : World) : makesIn (K w.params) 1077 = true := by k_is
theorem kcl_b (w : World) : findIn (K w.params) (.ref 1077) "__init__" = some (some (.ref 962)) := by k_is
theorem kcl_c (w : World) : typeIn (K w.params) (.ref 962) = some (.type "function") := by k_is
/-- a class call by the contract of its __init__ -/
theorem SpG.cls {w : World} {dp un dp' un' : Nat} {C fI : Addr} {vs : List Value} {pre : List (Addr × Obj)} {post : Value → List (Addr × Obj) → Prop}
    (hm : makesIn (K w.params) C = true) (hi : findIn (K w.params) (.ref C) "__init__" = some (some (.ref fI))) (hf : typeIn (K w.params) (.ref fI) = some (.type "function")) (hd : dp + 1 ≤ dp') (hu : un + 4 ≤ un')
    (I : ∀ x dx, (∀ p ∈ pre, p.1 < dx) → dx < x → SpG w dp' un' fI (.ref x :: vs) ((x, instObj C dx) :: (dx, emptyDict) :: pre) (fun v nl => v = .none ∧ post (.ref x) nl)) : SpG w dp un C vs pre post := by
  intro env outer base g mean mg mb s R B X T keep size hpre nd ret
  have X' : (K w.params).In s.heap := X.keeps keep
  obtain ⟨h, gs, d, t, os⟩ := s
  have lt : ∀ p ∈ pre, p.1 < h.objs.size := fun p hp => Heap.lt_size (hpre p hp).1
  have gn : ∀ n, h.objs.size ≤ n → g.get? n = none := fun n hn => by
    cases q : g.get? n with
    | none => rfl
    | some o => exact absurd (Heap.lt_size (keep _ _ q)) (Nat.not_lt.mpr hn)
  refine make_coreG (makes_of X' hm) (looks_findIn X' hi) (fun self => bind_fn X' self hf) (.inl rfl) ?_
  have k2 : ∀ b o, h.get? b = some o → ((h.push emptyDict).push (instObj C h.objs.size)).get? b = some o := fun b o e => Heap.get?_push_of_some _ (Heap.get?_push_of_some _ e)
  have hx : ((h.push emptyDict).push (instObj C h.objs.size)).get? (h.objs.size + 1) = some (instObj C h.objs.size) := by heap_get
  have hdx : ((h.push emptyDict).push (instObj C h.objs.size)).get? h.objs.size = some emptyDict := Heap.get?_push_of_some _ (Heap.get?_push_size _ rfl)
  refine codeG_weaken (A' := AA dp' un' env outer) rfl ?_ (fun l e => ?_) (fun l e => nomatch e) ?_ ?_
  · show dp + _ ≤ dp'; exact Nat.le_trans (Nat.add_le_add_left (by show (Code.builtin "type.__call__" ⟨.ref C :: vs, []⟩).weight ≤ 1; exact Nat.le_refl _) _) hd
  · exact e
  · show un + _ ≤ un'; exact Nat.le_trans (Nat.add_le_add_left (by show (Code.builtin "type.__call__" ⟨.ref C :: vs, []⟩).cUnits ≤ 4; exact Nat.le_of_ble_eq_true rfl) _) hu
  refine I (h.objs.size + 1) h.objs.size lt (Nat.lt_succ_self _) env outer base g mean mg mb _ _ ⟨rfl, B.stays, B.frames⟩ X T (fun b o e => k2 b o (keep b o e)) (Nat.le_trans size (show h.objs.size ≤ _ from by rw [Heap.size_push, Heap.size_push]; exact Nat.le_trans (Nat.le_succ _) (Nat.le_succ _))) (fun p hp => ?_) ?_ fun v news' h' tk' hpost hk hn hnd => ?_
  · rcases List.mem_cons.mp hp with rfl | hp
    · exact ⟨hx, gn _ (Nat.le_succ _)⟩
    · rcases List.mem_cons.mp hp with rfl | hp
      · exact ⟨hdx, gn _ (Nat.le_refl _)⟩
      · exact ⟨k2 _ _ (hpre p hp).1, (hpre p hp).2⟩
  · rw [List.map_cons, List.map_cons, List.nodup_cons, List.nodup_cons]
    refine ⟨fun q => ?_, fun q => ?_, nd⟩
    · rcases List.mem_cons.mp q with q | q
      · exact absurd q (Nat.succ_ne_self _)
      · obtain ⟨p, hp, e⟩ := List.mem_map.mp q
        have e : p.1 = h.objs.size + 1 := e
        exact absurd (e ▸ lt p hp : h.objs.size + 1 < h.objs.size) (by omega)
    · obtain ⟨p, hp, e⟩ := List.mem_map.mp q
      have e : p.1 = h.objs.size := e
      exact absurd (e ▸ lt p hp : h.objs.size < h.objs.size) (Nat.lt_irrefl _)
  · obtain ⟨rfl, hpost⟩ := hpost
    exact ⟨rfl, ret _ news' h' tk' hpost hk hn hnd⟩
inductive P_rccls_sp (w : World) (irs : Int) (ring : Int) (room : Int) (mss : Int) (v : Value) (nl : List (Addr × Obj)) : Prop where
  | mk (x : _) (d : _) (S : _) (am : _) (ad : _) (pl : _) (oR : _) (j1 : _) (j2 : _) (j3 : _) (n : _) (hh1 : v = .ref x) (hh2 : RcD w ring room mss (irs + 1) (irs + 1 + room) S am oR) (hh3 : nl = [(x, instObj 1077 d), (d, oR), (S, baO #[]), (am, instObj 943 ad), (ad, asO w j1 j2 j3 ring pl), (pl, listO [] n)]) : P_rccls_sp w irs ring room mss v nl
theorem rccls_sp (w : World) (irs ring room mss : Int) (t6 t7 t8 t9 : Tok) (hr : ring = 256 ∨ ring = 4294967296) :
    SpG w 735 3690 1077 [.int irs t6, .int ring t7, .int room t8, .int mss t9] [] (P_rccls_sp w irs ring room mss) :=
  SpG.cls (dp' := 740) (un' := 3700) (fI := 962) (kcl_a w) (kcl_b w) (kcl_c w) (by decide) (by decide) fun x dx _ _ => (rcinit_sp w x dx irs ring room mss t6 t7 t8 t9 hr).mono fun v nl ⟨S, am, ad, pl, oR, j1, j2, j3, n, h1, h2, h3⟩ => ⟨h1, x, dx, S, am, ad, pl, oR, j1, j2, j3, n, rfl, h2, h3⟩
end Mine
end PartBj
section SecSM
open PySem PySem.W PySem.Calls PyProof.Rows Mine

theorem Mine.flush26 : True := by first | (w_top off; walk1) | trivial
section PartS2
theorem Mine.flush27 : True := by first | (w_top off; walk1) | trivial
open PySem PySem.W PySem.Calls PyProof.Rows
set_option Elab.async false
set_option maxRecDepth 100000
set_option maxHeartbeats 4000000
set_option rowWalk.seconds 0
set_option pp.maxSteps 6000
namespace Mine

structure LmZ where
  k0 : Tok
  k1 : Tok
  k2 : Tok
  k3 : Tok
  k4 : Tok
  k5 : Tok
  k6 : Tok
  k7 : Tok
  k8 : Tok
  k9 : Tok
  t0 : Tok
  t1 : Tok
  t2 : Tok
  t3 : Tok
  t4 : Tok
  t5 : Tok
  t6 : Tok
  t7 : Tok
  t8 : Tok
  t9 : Tok
theorem neLmZ : Nonempty LmZ := ⟨by constructor <;> exact default⟩
abbrev limO (w : World) (z : LmZ) (ring mss room f0 l0 m0 : Int) : Obj :=
  dictO [de w "ring" z.k0 (.int ring z.t0), de w "mss" z.k1 (.int mss z.t1), de w "send_room" z.k2 (.int 40 z.t2), de w "receive_room" z.k3 (.int room z.t3), de w "first_timeout" z.k4 (.int f0 z.t4), de w "least_timeout" z.k5 (.int l0 z.t5), de w "most_timeout" z.k6 (.int m0 z.t6), de w "most_tries" z.k7 (.int 3 z.t7), de w "ack_delay" z.k8 (.int 5 z.t8), de w "time_wait" z.k9 (.int 30 z.t9)] 10
inductive LimD (w : World) (ring : Int) (mss : Int) (room : Int) (f0 : Int) (l0 : Int) (m0 : Int) (o : Obj) : Prop where
  | mk (z : LmZ) (hh1 : o = limO w z ring mss room f0 l0 m0) : LimD w ring mss room f0 l0 m0 o
theorem LimD.of {w : World} {ring : Int} {mss : Int} {room : Int} {f0 : Int} {l0 : Int} {m0 : Int} {o : Obj} {k0 : Tok} {k1 : Tok} {k2 : Tok} {k3 : Tok} {k4 : Tok} {k5 : Tok} {k6 : Tok} {k7 : Tok} {k8 : Tok} {k9 : Tok} {t0 : Tok} {t1 : Tok} {t2 : Tok} {t3 : Tok} {t4 : Tok} {t5 : Tok} {t6 : Tok} {t7 : Tok} {t8 : Tok} {t9 : Tok} (e : o =  dictO [de w "ring" k0 (.int ring t0), de w "mss" k1 (.int mss t1), de w "send_room" k2 (.int 40 t2), de w "receive_room" k3 (.int room t3), de w "first_timeout" k4 (.int f0 t4), de w "least_timeout" k5 (.int l0 t5), de w "most_timeout" k6 (.int m0 t6), de w "most_tries" k7 (.int 3 t7), de w "ack_delay" k8 (.int 5 t8), de w "time_wait" k9 (.int 30 t9)] 10) : LimD w ring mss room f0 l0 m0 o :=
  ⟨⟨k0, k1, k2, k3, k4, k5, k6, k7, k8, k9, t0, t1, t2, t3, t4, t5, t6, t7, t8, t9⟩, e⟩
structure TcZ where
  k0 : Tok
  k1 : Tok
  k2 : Tok
  k3 : Tok
  k4 : Tok
  k5 : Tok
  k6 : Tok
  k7 : Tok
  k8 : Tok
  k9 : Tok
  k10 : Tok
  k11 : Tok
  k12 : Tok
  k13 : Tok
  v1 : Value
  v2 : Value
  v3 : Value
  v4 : Value
  v5 : Value
  v6 : Value
  v7 : Value
  v8 : Value
theorem neTcZ : Nonempty TcZ := ⟨by constructor <;> exact default⟩
abbrev tcbO (w : World) (z : TcZ) (lm lo re ac wh : Addr) (rv : Value) : Obj :=
  dictO [de w "limits" z.k0 (.ref lm), de w "local" z.k1 (.ref lo), de w "remote" z.k2 (.ref re), de w "state" z.k3 (z.v1), de w "sender" z.k4 (z.v2), de w "receiver" z.k5 (rv), de w "clock" z.k6 (z.v3), de w "congestion" z.k7 (z.v4), de w "acks" z.k8 (.ref ac), de w "wheel" z.k9 (.ref wh), de w "error" z.k10 (z.v5), de w "probes" z.k11 (z.v6), de w "unanswered" z.k12 (z.v7), de w "is_nagle" z.k13 (z.v8)] 14
inductive TcD (w : World) (lm : Addr) (lo : Addr) (re : Addr) (ac : Addr) (wh : Addr) (rv : Value) (o : Obj) : Prop where
  | mk (z : TcZ) (hh1 : o = tcbO w z lm lo re ac wh rv) : TcD w lm lo re ac wh rv o
theorem TcD.of {w : World} {lm : Addr} {lo : Addr} {re : Addr} {ac : Addr} {wh : Addr} {rv : Value} {o : Obj} {k0 : Tok} {k1 : Tok} {k2 : Tok} {k3 : Tok} {k4 : Tok} {k5 : Tok} {k6 : Tok} {k7 : Tok} {k8 : Tok} {k9 : Tok} {k10 : Tok} {k11 : Tok} {k12 : Tok} {k13 : Tok} {v1 : Value} {v2 : Value} {v3 : Value} {v4 : Value} {v5 : Value} {v6 : Value} {v7 : Value} {v8 : Value} (e : o =  dictO [de w "limits" k0 (.ref lm), de w "local" k1 (.ref lo), de w "remote" k2 (.ref re), de w "state" k3 (v1), de w "sender" k4 (v2), de w "receiver" k5 (rv), de w "clock" k6 (v3), de w "congestion" k7 (v4), de w "acks" k8 (.ref ac), de w "wheel" k9 (.ref wh), de w "error" k10 (v5), de w "probes" k11 (v6), de w "unanswered" k12 (v7), de w "is_nagle" k13 (v8)] 14) : TcD w lm lo re ac wh rv o :=
  ⟨⟨k0, k1, k2, k3, k4, k5, k6, k7, k8, k9, k10, k11, k12, k13, v1, v2, v3, v4, v5, v6, v7, v8⟩, e⟩
structure SgZ where
  k0 : Tok
  k1 : Tok
  k2 : Tok
  k3 : Tok
  k4 : Tok
  k5 : Tok
  k6 : Tok
  k7 : Tok
  k8 : Tok
  t1 : Tok
  t2 : Tok
  t3 : Tok
  t4 : Tok
  t5 : Tok
  t6 : Tok
  t7 : Tok
  t8 : Tok
  t9 : Tok
abbrev sgO (w : World) (z : SgZ) (sq ak fl wd : Int) (op oc : Array UInt8) : Obj :=
  dictO [de w "source_port" z.k0 (.int 1000 z.t1), de w "target_port" z.k1 (.int 80 z.t2), de w "seq" z.k2 (.int sq z.t3), de w "ack" z.k3 (.int ak z.t4), de w "flags" z.k4 (.int fl z.t5), de w "window" z.k5 (.int wd z.t6), de w "urgent" z.k6 (.int 0 z.t7), de w "options" z.k7 (.bytes op z.t8), de w "payload" z.k8 (.bytes oc z.t9)] 9
inductive SgD (w : World) (sq : Int) (ak : Int) (fl : Int) (wd : Int) (op : Array UInt8) (oc : Array UInt8) (o : Obj) : Prop where
  | mk (z : SgZ) (hh1 : o = sgO w z sq ak fl wd op oc) : SgD w sq ak fl wd op oc o
theorem SgD.of {w : World} {sq : Int} {ak : Int} {fl : Int} {wd : Int} {op : Array UInt8} {oc : Array UInt8} {o : Obj} {k0 : Tok} {k1 : Tok} {k2 : Tok} {k3 : Tok} {k4 : Tok} {k5 : Tok} {k6 : Tok} {k7 : Tok} {k8 : Tok} {t1 : Tok} {t2 : Tok} {t3 : Tok} {t4 : Tok} {t5 : Tok} {t6 : Tok} {t7 : Tok} {t8 : Tok} {t9 : Tok} (e : o =  dictO [de w "source_port" k0 (.int 1000 t1), de w "target_port" k1 (.int 80 t2), de w "seq" k2 (.int sq t3), de w "ack" k3 (.int ak t4), de w "flags" k4 (.int fl t5), de w "window" k5 (.int wd t6), de w "urgent" k6 (.int 0 t7), de w "options" k7 (.bytes op t8), de w "payload" k8 (.bytes oc t9)] 9) : SgD w sq ak fl wd op oc o :=
  ⟨⟨k0, k1, k2, k3, k4, k5, k6, k7, k8, t1, t2, t3, t4, t5, t6, t7, t8, t9⟩, e⟩
inductive P_sgcls_sp (w : World) (sq : Int) (ak : Int) (fl : Int) (wd : Int) (op : Array UInt8) (oc : Array UInt8) (v : Value) (nl : List (Addr × Obj)) : Prop where
  | mk (y : _) (d : _) (o : _) (hh1 : v = .ref y) (hh2 : SgD w sq ak fl wd op oc o) (hh3 : nl = [(y, instObj 702 d), (d, o)]) : P_sgcls_sp w sq ak fl wd op oc v nl
theorem sgcls_init (w : World) (x dx : Addr) (sq ak fl wd : Int) (op oc : Array UInt8) (t1 t2 t3 t4 t5 t6 t7 t8 t9 : Tok) : Sp w 780 3900 678 [.ref x, .int 1000 t1, .int 80 t2, .int sq t3, .int ak t4, .int fl t5, .int wd t6, .int 0 t7, .bytes op t8, .bytes oc t9] [(x, instObj 702 dx), (dx, emptyDict)] (fun v nl => v = .none ∧ P_sgcls_sp w sq ak fl wd op oc (.ref x) nl) := by
  refine Sp.enter (binds := [("self", .ref x), ("source_port", .int 1000 t1), ("target_port", .int 80 t2), ("seq", .int sq t3), ("ack", .int ak t4), ("flags", .int fl t5), ("window", .int wd t6), ("urgent", .int 0 t7), ("options", .bytes op t8), ("payload", .bytes oc t9)]) (by k_is) (by k_is) (by decide) (fun s X => binds_K X rfl (by k_is) rfl rfl rfl) (locs rfl) ?_
  intro env outer base g mean mg mb L' h₁ s Q E B X T F N ND ret
  obtain ⟨n_x_dx⟩ := nn2 ND
  revert B X T F N ND ret n_x_dx
  revert w x dx sq ak fl wd op oc t1 t2 t3 t4 t5 t6 t7 t8 t9 env outer base g mean mg mb L' h₁ s Q E
  (iterate 2 (refine dum ?_))
  refine eps32 (by repeat' (first | refine @instNonemptyProd _ _ ?_ ?_ | infer_instance | exact neW | exact neS)) ?_
  intro B X T F N ND ret n_x_dx
  have ND9 := ND
  have ret2 := fun v nl h tk m a b c d => ret v nl h tk m c a b d
  (repeat' (first | (k_unfold; (try dsimp only)) | (k_end; wrow_close) | ((with_reducible show wpAny _ _ (eval (Expr.Name _ _) _) _ _ _); first | ((k_here; (with_reducible first | (refine nmL (by first | exact nf678.1 | exact nf678.2.1 | exact nf678.2.2.1 | exact nf678.2.2.2.1 | exact nf678.2.2.2.2.1 | exact nf678.2.2.2.2.2.1 | exact nf678.2.2.2.2.2.2.1 | exact nf678.2.2.2.2.2.2.2.1 | exact nf678.2.2.2.2.2.2.2.2.1 | exact nf678.2.2.2.2.2.2.2.2.2.1) (by k_asm) (by k_dflt (exact Eq.refl (some _))) ?_) | (refine nmL (by first | exact nf844.1 | exact nf844.2.1 | exact nf844.2.2.1 | exact nf844.2.2.2.1 | exact nf844.2.2.2.2.1 | exact nf844.2.2.2.2.2.1 | exact nf844.2.2.2.2.2.2.1) (by k_asm) (by k_dflt (exact Eq.refl (some _))) ?_) | (refine nmK nf844.2.2.2.2.2.2.2.1 (gk_mss_option _) (by k_asm) (by k_asm) (by k_asm) ?_) | (refine nmK nf844.2.2.2.2.2.2.2.2.1 (gk_Segment _) (by k_asm) (by k_asm) (by k_asm) ?_) | (refine nmB nf844.2.2.2.2.2.2.2.2.2.1 (bk_min _) (by k_asm) (by k_asm) (by k_asm) ?_))))) | walk1 | (dsimp only; walk1) | (leave1; (try dsimp only)) | fail "no step"))
  all_goals (try dsimp only)
  all_goals (try k_unfold)
  all_goals (try dsimp only)
  all_goals (try k_unfold)
  all_goals (try dsimp only)
  all_goals (try k_unfold)
  all_goals (try dsimp only)
  all_goals (try (dsimp only))
  all_goals (with_reducible rename Fr _ _ _ _ => hf)
  all_goals (with_reducible rename News _ _ _ _ => hh)
  all_goals (refine ret2 _ _ _ _ _ hf (news_pick hh (by ktr_rel)) ⟨rfl, _, _, _, rfl, (SgD.of rfl), rfl⟩ ?_)
  all_goals k_allIn
theorem sgcls_sp (w : World) (sq ak fl wd : Int) (op oc : Array UInt8) (t1 t2 t3 t4 t5 t6 t7 t8 t9 : Tok) : Sp w 775 3890 702 [.int 1000 t1, .int 80 t2, .int sq t3, .int ak t4, .int fl t5, .int wd t6, .int 0 t7, .bytes op t8, .bytes oc t9] [] (P_sgcls_sp w sq ak fl wd op oc) :=
  Sp.cls (by k_is) (by k_is) (by k_is) (by decide) (by decide) fun x dx _ _ => sgcls_init w x dx sq ak fl wd op oc t1 t2 t3 t4 t5 t6 t7 t8 t9
inductive P_makeN_sp (w : World) (tc : Addr) (td : Addr) (lm : Addr) (ld : Addr) (lo : Addr) (re : Addr) (oT : Obj) (oM : Obj) (u1 : Tok) (u2 : Tok) (u3 : Tok) (u4 : Tok) (m1 : Nat) (m2 : Nat) (mss : Int) (room : Int) (fl : Int) (sq : Int) (oc : Array UInt8) (v : Value) (nl : List (Addr × Obj)) : Prop where
  | mk (sg : _) (sd : _) (oG : _) (op : _) (hh1 : v = .ref sg) (hh2 : SgD w sq 0 fl (if 65535 < room then 65535 else room) op oc oG) (hh3 : (Builtin.bitAnd fl 2 ≠ 0 → op = byteArr [2, 4, (if 65535 < mss then 65535 else mss) / 256, (if 65535 < mss then 65535 else mss) % 256])) (hh4 : (Builtin.bitAnd fl 2 = 0 → op = #[])) (hh5 : nl = (sg, instObj 702 sd) :: (sd, oG) :: [(tc, instObj 847 td), (td, oT), (lm, instObj 804 ld), (ld, oM), (lo, tupO [.int 1 u1, .int 1000 u2] m1), (re, tupO [.int 2 u3, .int 80 u4] m2)]) : P_makeN_sp w tc td lm ld lo re oT oM u1 u2 u3 u4 m1 m2 mss room fl sq oc v nl
theorem makeN_sp (w : World) (tc td lm ld lo re ac wh : Addr) (oT oM : Obj) (u1 u2 u3 u4 tf ts to : Tok) (m1 m2 : Nat) (ring mss room f0 l0 m0 fl sq : Int) (oc : Array UInt8) (hT : TcD w lm lo re ac wh .none oT) (hM : LimD w ring mss room f0 l0 m0 oM)
    (h1 : 1 ≤ mss) (h2 : mss ≤ 66000) (h3 : 8 ≤ room) (h4 : room ≤ 70000) :
    Sp w 740 3700 844 [.ref tc, .int fl tf, .int sq ts, .bytes oc to] [(tc, instObj 847 td), (td, oT), (lm, instObj 804 ld), (ld, oM), (lo, tupO [.int 1 u1, .int 1000 u2] m1), (re, tupO [.int 2 u3, .int 80 u4] m2)] (P_makeN_sp w tc td lm ld lo re oT oM u1 u2 u3 u4 m1 m2 mss room fl sq oc) := by
  obtain ⟨k0Z, rfl⟩ := hT
  obtain ⟨j0Z, rfl⟩ := hM
  refine Sp.enter (binds := [("self", .ref tc), ("flags", .int fl tf), ("seq", .int sq ts), ("payload", .bytes oc to)]) (by k_is) (by k_is) (by decide) (fun s X => binds_K X rfl (by k_is) rfl rfl rfl) (locs rfl) ?_
  intro env outer base g mean mg mb L' h₁ s Q E B X T F N ND ret
  revert h1 h2 h3 h4 B X T F N ND ret
  revert w tc td lm ld lo re ac wh u1 u2 u3 u4 tf ts to m1 m2 ring mss room f0 l0 m0 fl sq oc k0Z j0Z env outer base g mean mg mb L' h₁ s Q E
  refine eps41 (by repeat' (first | refine @instNonemptyProd _ _ ?_ ?_ | infer_instance | exact neW | exact neS | exact neTcZ | exact neLmZ)) ?_
  intro h1 h2 h3 h4 B X T F N ND ret
  have ND9 := ND
  have ret2 := fun v nl h tk m a b c d => ret v nl h tk m c a b d
  (repeat' (first | (k_unfold; (try dsimp only)) | (k_end; wrow_close) | ((with_reducible show wpAny _ _ (eval (Expr.Name _ _) _) _ _ _); first | ((k_here; (with_reducible first | (refine nmL (by first | exact nf678.1 | exact nf678.2.1 | exact nf678.2.2.1 | exact nf678.2.2.2.1 | exact nf678.2.2.2.2.1 | exact nf678.2.2.2.2.2.1 | exact nf678.2.2.2.2.2.2.1 | exact nf678.2.2.2.2.2.2.2.1 | exact nf678.2.2.2.2.2.2.2.2.1 | exact nf678.2.2.2.2.2.2.2.2.2.1) (by k_asm) (by k_dflt (exact Eq.refl (some _))) ?_) | (refine nmL (by first | exact nf844.1 | exact nf844.2.1 | exact nf844.2.2.1 | exact nf844.2.2.2.1 | exact nf844.2.2.2.2.1 | exact nf844.2.2.2.2.2.1 | exact nf844.2.2.2.2.2.2.1) (by k_asm) (by k_dflt (exact Eq.refl (some _))) ?_) | (refine nmK nf844.2.2.2.2.2.2.2.1 (gk_mss_option _) (by k_asm) (by k_asm) (by k_asm) ?_) | (refine nmK nf844.2.2.2.2.2.2.2.2.1 (gk_Segment _) (by k_asm) (by k_asm) (by k_asm) ?_) | (refine nmB nf844.2.2.2.2.2.2.2.2.2.1 (bk_min _) (by k_asm) (by k_asm) (by k_asm) ?_))))) | ((with_reducible show wpAny _ _ (call (Value.ref _) _) _ _ _); first | (((with_reducible show wpAny _ _ (call (Value.ref 702) _) _ _ _); k_dflt (first | ((refine Sp.use (sgcls_sp _ _ _ _ _ _ _ _ _ _ _ _ _ _ _ _) (by k_asm) (by k_asm) (by k_asm) (by k_asm) (by k_asm) rfl rfl rfl rfl (nb rfl) (nb rfl) (by ktr_rel) ?znd ?_; (case znd => k_allIn);  k_whole); intro v9 nl9 h9 tk9 P9; obtain ⟨sg9, sd9, oG9, rfl, hG9, rfl⟩ := P9; intro F9 N9 ND9; dsimp only [List.cons_append, List.nil_append] at N9 ND9; (try k_sweep); (try dsimp only))))) | (((with_reducible show wpAny _ _ (call (Value.ref 720) _) _ _ _); k_dflt (first | ((refine Sp.use (mss_sp _ _ _ ?a1 ?a2) (by k_asm) (by k_asm) (by k_asm) (by k_asm) (by k_asm) rfl rfl rfl rfl (nb rfl) (nb rfl) (by ktr_rel) ?znd ?_; (case znd => k_allIn); (case a1 => kaf_pre); (case a2 => kaf_pre); k_whole); intro v9 nl9 h9 tk9 P9; obtain ⟨t9, rfl, rfl⟩ := P9; intro F9 N9 ND9; dsimp only [List.cons_append, List.nil_append] at N9 ND9; (try k_sweep); (try dsimp only)))))) | walk1 | (dsimp only; walk1) | (leave1; (try dsimp only)) | fail "no step"))
  all_goals (try dsimp only)
  all_goals (try k_unfold)
  all_goals (try dsimp only)
  all_goals (try k_unfold)
  all_goals (try dsimp only)
  all_goals (try k_unfold)
  all_goals (try dsimp only)
  all_goals (try (dsimp only))
  all_goals (with_reducible rename Fr _ _ _ _ => hf)
  all_goals (with_reducible rename News _ _ _ _ => hh)
  all_goals (refine ret2 _ _ _ _ _ hf (news_pick hh (by ktr_rel)) ⟨_, _, _, _, rfl, hG9, ?_, ?_, rfl⟩ ?_)
  all_goals first | k_allIn | (intro q; first | rfl | (exfalso; with_reducible contradiction) | (exfalso; omega)) | trace_state
end Mine
end PartS2
section PartM1
theorem Mine.flush28 : True := by first | (w_top off; walk1) | trivial
open PySem PySem.W PySem.Calls PyProof.Rows
set_option Elab.async false
set_option maxRecDepth 100000
set_option maxHeartbeats 4000000
set_option rowWalk.seconds 0
set_option pp.maxSteps 6000
namespace Mine
inductive P_makeR_sp (w : World) (tc : Addr) (td : Addr) (lm : Addr) (ld : Addr) (lo : Addr) (re : Addr) (rc : Addr) (rd : Addr) (S : Addr) (am : Addr) (ac : Addr) (ad : Addr) (x : Addr) (d : Addr) (sl : Addr) (s2 : Addr) (s12 : Addr) (lt : Addr) (en : Addr) (oT : Obj) (oM : Obj) (oS : Obj) (u1 : Tok) (u2 : Tok) (u3 : Tok) (u4 : Tok) (m1 : Nat) (m2 : Nat) (b : Array UInt8) (ring : Int) (room : Int) (mss : Int) (p : Int) (e : Int) (fl : Int) (sq : Int) (oc : Array UInt8) (v : Value) (nl : List (Addr × Obj)) : Prop where
  | mk (sg : _) (sd : _) (oG : _) (op : _) (e' : _) (oR' : _) (oA' : _) (a3 : _) (a1 : _) (oW : _) (o2 : _) (o12 : _) (oL : _) (oE : _) (oA3 : _) (oA1 : _) (hh1 : v = .ref sg) (hh2 : SgD w sq (Int.fmod p ring) (Builtin.bitOr fl 16) (if 65535 < e' - p then 65535 else e' - p) op oc oG) (hh3 : (Builtin.bitAnd (Builtin.bitOr fl 16) 2 ≠ 0 → op = byteArr [2, 4, (if 65535 < mss then 65535 else mss) / 256, (if 65535 < mss then 65535 else mss) % 256])) (hh4 : (Builtin.bitAnd (Builtin.bitOr fl 16) 2 = 0 → op = #[])) (hh5 : RcD w ring room mss p e' S am oR') (hh6 : (max 1 (min mss (Int.fdiv room 2)) ≤ p + (room - b.size) - e → e' = p + (room - b.size))) (hh7 : (p + (room - b.size) - e < max 1 (min mss (Int.fdiv room 2)) → e' = e)) (hh8 : AckD w false oA') (hh9 : WO w x d sl s2 s12 lt en a3 a1 oW oS o2 o12 oL oE oA3 oA1) (hh10 : nl = (sg, instObj 702 sd) :: (sd, oG) :: [(tc, instObj 847 td), (td, oT), (lm, instObj 804 ld), (ld, oM), (lo, tupO [.int 1 u1, .int 1000 u2] m1), (re, tupO [.int 2 u3, .int 80 u4] m2), (rc, instObj 1077 rd), (rd, oR'), (S, baO b), (ac, instObj 74 ad), (ad, oA'), (x, instObj 783 d), (d, oW), (sl, oS), (s2, o2), (s12, o12), (lt, oL), (en, oE), (a3, oA3), (a1, oA1)]) : P_makeR_sp w tc td lm ld lo re rc rd S am ac ad x d sl s2 s12 lt en oT oM oS u1 u2 u3 u4 m1 m2 b ring room mss p e fl sq oc v nl
theorem makeR_sp (w : World) (tc td lm ld lo re rc rd S am ac ad x d sl s2 s12 lt en a3 a1 : Addr) (oT oM oR oA oW oS o2 o12 oL oE oA3 oA1 : Obj) (u1 u2 u3 u4 : Tok) (m1 m2 : Nat) (b : Array UInt8) (ring room mss p e f0 l0 m0 : Int) (tf ts to : Tok) (fl sq : Int) (oc : Array UInt8) (r : Bool) (hA : AckD w r oA) (hW : WTO w x d sl s2 s12 lt en a3 a1 oW oS o2 o12 oL oE oA3 oA1) (hT : TcD w lm lo re ac x (.ref rc) oT) (hM : LimD w ring mss room f0 l0 m0 oM) (hR : RcD w ring room mss p e S am oR) (hr : ring = 256 ∨ ring = 4294967296) (h0 : p ≤ e) (h1 : e ≤ p + (room - b.size)) (h2 : 2 * room < ring) (h3 : 8 ≤ room) (h3' : room ≤ 70000) (h4 : 1 ≤ mss) (h5 : mss ≤ 66000) (hfl : 0 ≤ fl) (hfl2 : fl < 256) :
    Sp w 740 3700 844 [.ref tc, .int fl tf, .int sq ts, .bytes oc to] [(tc, instObj 847 td), (td, oT), (lm, instObj 804 ld), (ld, oM), (lo, tupO [.int 1 u1, .int 1000 u2] m1), (re, tupO [.int 2 u3, .int 80 u4] m2), (rc, instObj 1077 rd), (rd, oR), (S, baO b), (ac, instObj 74 ad), (ad, oA), (x, instObj 783 d), (d, oW), (sl, oS), (s2, o2), (s12, o12), (lt, oL), (en, oE), (a3, oA3), (a1, oA1)] (P_makeR_sp w tc td lm ld lo re rc rd S am ac ad x d sl s2 s12 lt en oT oM oS u1 u2 u3 u4 m1 m2 b ring room mss p e fl sq oc) := by
  obtain ⟨k0Z, rfl⟩ := hT
  have hR' := hR
  obtain ⟨j0Z, rfl⟩ := hM
  obtain ⟨y1Z, rfl⟩ := hR
  have hA' := hA
  obtain ⟨x1, x2, x3, x4, x5, x6, x7, x8, rfl, -⟩ := hA
  have hW' := hW.1
  obtain ⟨w1Z, rfl⟩ := hW'
  refine Sp.enter (binds := [("self", .ref tc), ("flags", .int fl tf), ("seq", .int sq ts), ("payload", .bytes oc to)]) (by k_is) (by k_is) (by decide) (fun s X => binds_K X rfl (by k_is) rfl rfl rfl) (locs rfl) ?_
  intro env outer base g mean mg mb L' h₁ s Q E B X T F N ND ret
  revert hr h0 h1 h2 h3 h3' h4 h5 hfl hfl2 hR' hA' hW B X T F N ND ret
  revert w tc td lm ld lo re rc rd S am ac ad x d sl s2 s12 lt en a3 a1 oS o2 o12 oL oE oA3 oA1 u1 u2 u3 u4 m1 m2 b ring room mss p e f0 l0 m0 tf ts to fl sq oc r k0Z j0Z y1Z x1 x2 x3 x4 x5 x6 x7 x8 w1Z env outer base g mean mg mb L' h₁ s Q E
  (iterate 8 (refine dum ?_))
  refine eps83 (by repeat' (first | refine @instNonemptyProd _ _ ?_ ?_ | infer_instance | exact neW | exact neS | exact neWhZ | exact neRcZ | exact neTcZ | exact neLmZ)) ?_
  intro hr h0 h1 h2 h3 h3' h4 h5 hfl hfl2 hR' hA' hW B X T F N ND ret
  have ND9 := ND
  have ret2 := fun v nl h tk m a b c d => ret v nl h tk m c a b d
  (repeat' (first | (k_unfold; (try dsimp only)) | (k_end; wrow_close) | ((with_reducible show wpAny _ _ (eval (Expr.Name _ _) _) _ _ _); first | ((k_here; (with_reducible first | (refine nmL (by first | exact nf844.1 | exact nf844.2.1 | exact nf844.2.2.1 | exact nf844.2.2.2.1 | exact nf844.2.2.2.2.1 | exact nf844.2.2.2.2.2.1 | exact nf844.2.2.2.2.2.2.1) (by k_asm) (by k_dflt (exact Eq.refl (some _))) ?_) | (refine nmK nf844.2.2.2.2.2.2.2.1 (gk_mss_option _) (by k_asm) (by k_asm) (by k_asm) ?_) | (refine nmK nf844.2.2.2.2.2.2.2.2.1 (gk_Segment _) (by k_asm) (by k_asm) (by k_asm) ?_) | (refine nmB nf844.2.2.2.2.2.2.2.2.2.1 (bk_min _) (by k_asm) (by k_asm) (by k_asm) ?_))))) | ((with_reducible show wpAny _ _ (call (Value.ref _) _) _ _ _); first | (((with_reducible show wpAny _ _ (call (Value.ref 990) _) _ _ _); k_dflt (first | ((refine Sp.useP (by k_asm) (by k_asm) (by k_asm) (by k_asm) (by k_asm) rfl rfl rfl rfl (by ktr_rel) ?znd (window_sp _ _ _ _ _ _ _ _ _ _ _ _ (by assumption) ?a1 ?a2 ?a3 ?a4 ?a5 ?a6 ?a7 ?a8) (nb rfl) (nb rfl) ?_; (case znd => k_allIn); (case a1 => kaf_pre); (case a2 => kaf_pre); (case a3 => kaf_pre); (case a4 => kaf_pre); (case a5 => kaf_pre); (case a6 => kaf_pre); (case a7 => kaf_pre); (case a8 => kaf_pre); k_whole); intro v9 nl9 h9 tk9 P9; obtain ⟨e9, oR9, t9, hR9, rfl, p91, p92, rfl⟩ := P9; intro F9 N9 ND9; dsimp only [List.cons_append, List.nil_append] at N9 ND9; (try k_sweep); (try dsimp only))))) | (((with_reducible show wpAny _ _ (call (Value.ref 754) _) _ _ _); k_dflt (first | ((refine Sp.use (cancel3TO _ _ _ _ _ _ _ _ _ _ _ _ _ _ _ _ _ _ (by assumption) _) (by k_asm) (by k_asm) (by k_asm) (by k_asm) (by k_asm) rfl rfl rfl rfl (nb rfl) (nb rfl) (by ktr_rel) ?znd ?_; (case znd => k_allIn);  k_whole); intro v9 nl9 h9 tk9 P9; obtain ⟨a39, a19, oW9, o29, o129, oL9, oE9, oA39, oA19, hW9, rfl⟩ := P9; intro F9 N9 ND9; dsimp only [List.cons_append, List.nil_append] at N9 ND9; (try k_sweep); (try dsimp only))))) | (((with_reducible show wpAny _ _ (call (Value.ref 64) _) _ _ _); k_dflt (first | ((refine Sp.useP (by k_asm) (by k_asm) (by k_asm) (by k_asm) (by k_asm) rfl rfl rfl rfl (by ktr_rel) ?znd (onsent_sp _ _ _ _ _ (by assumption)) (nb rfl) (nb rfl) ?_; (case znd => k_allIn);  k_whole); intro v9 nl9 h9 tk9 P9; obtain ⟨oA9, rfl, hA9, rfl⟩ := P9; intro F9 N9 ND9; dsimp only [List.cons_append, List.nil_append] at N9 ND9; (try k_sweep); (try dsimp only))))) | (((with_reducible show wpAny _ _ (call (Value.ref 702) _) _ _ _); k_dflt (first | ((refine Sp.use (sgcls_sp _ _ _ _ _ _ _ _ _ _ _ _ _ _ _ _) (by k_asm) (by k_asm) (by k_asm) (by k_asm) (by k_asm) rfl rfl rfl rfl (nb rfl) (nb rfl) (by ktr_rel) ?znd ?_; (case znd => k_allIn);  k_whole); intro v9 nl9 h9 tk9 P9; obtain ⟨sg9, sd9, oG9, rfl, hG9, rfl⟩ := P9; intro F9 N9 ND9; dsimp only [List.cons_append, List.nil_append] at N9 ND9; (try k_sweep); (try dsimp only))))) | (((with_reducible show wpAny _ _ (call (Value.ref 720) _) _ _ _); k_dflt (first | ((refine Sp.use (mss_sp _ _ _ ?a1 ?a2) (by k_asm) (by k_asm) (by k_asm) (by k_asm) (by k_asm) rfl rfl rfl rfl (nb rfl) (nb rfl) (by ktr_rel) ?znd ?_; (case znd => k_allIn); (case a1 => kaf_pre); (case a2 => kaf_pre); k_whole); intro v9 nl9 h9 tk9 P9; obtain ⟨t9, rfl, rfl⟩ := P9; intro F9 N9 ND9; dsimp only [List.cons_append, List.nil_append] at N9 ND9; (try k_sweep); (try dsimp only)))))) | walk1 | (dsimp only; walk1) | (leave1; (try dsimp only)) | fail "no step"))
  all_goals (try dsimp only)
  all_goals (try k_unfold)
  all_goals (try dsimp only)
  all_goals (try k_unfold)
  all_goals (try dsimp only)
  all_goals (try k_unfold)
  all_goals (try dsimp only)
  all_goals (try (dsimp only))
  all_goals (with_reducible rename Fr _ _ _ _ => hf)
  all_goals (with_reducible rename News _ _ _ _ => hh)
  all_goals (refine ret2 _ _ _ _ _ hf (news_pick hh (by ktr_rel)) ⟨_, _, _, _, _, _, _, _, _, _, _, _, _, _, _, _, rfl, hG9, ?_, ?_, hR9, p91, p92, hA9, hW9, rfl⟩ ?_)
  all_goals first | exact nd_pick ND9 (by ktr_rel) | (intro q; first | rfl | (exfalso; with_reducible contradiction) | (exfalso; omega)) | trace_state
end Mine
end PartM1
end SecSM
theorem Mine.flush29 : True := by first | (w_top off; walk1) | trivial
section PartRj
open PySem PySem.W PySem.Calls PyProof.Rows
set_option Elab.async false
set_option maxRecDepth 100000
set_option maxHeartbeats 400000
namespace Mine
section
variable {prog : Program} {w : World} {A : Around} {E : Value → Shared → Prop} {s : Shared} {env : Env} {h₀ : Heap} {x : PySem.Str} {body : List Stmt} {Q : Flow → Shared → Prop}
/-- where a turn's end stands: locals and ledger bear J of the next turn -/
def JEnd (J : Nat → (PySem.Str → Option Value) → List (Addr × Obj) → Prop) (i : Nat) (m' : PySem.Str → Option Value) (news' : List (Addr × Obj)) : Prop := J (i + 1) m' news'
theorem rangeRest_of {I : Addr} {a : Int} {n : Nat} (J : Nat → (PySem.Str → Option Value) → List (Addr × Obj) → Prop)
    (step : ∀ i m news t h tk, i < n → J i m news → Fr h₀ env.locals h (fun y => if y = x then some (.int (a + (i : Int)) t) else m y) → News h₀ env.locals h ((I, itR (a + ((i + 1 : Nat) : Int)) ((n : Int) - ((i + 1 : Nat) : Int))) :: news) →
      (∀ p ∈ news, p.1 ≠ I) →
      wpAny (model prog w) A (execs body env) (UnrPost h₀ env.locals { s with heap := h, toks := tk } I (itR (a + ((i + 1 : Nat) : Int)) ((n : Int) - ((i + 1 : Nat) : Int))) (JEnd J i) Q) E { s with heap := h, toks := tk })
    (fin : ∀ m news h tk, J n m news → Fr h₀ env.locals h m → News h₀ env.locals h news → Q .next { s with heap := h, toks := tk }) :
    ∀ (k i : Nat) (m : PySem.Str → Option Value) (news : List (Addr × Obj)), i + k = n → (∀ p ∈ news, p.1 ≠ I) → J i m news → RangeRest prog w A E h₀ env x body Q s I a n k i m news
  | 0, i, m, news, e, _, j => RangeRest.zero fun h tk F N => fin m news h tk (by have e : i = n := e; exact e ▸ j) F N
  | k + 1, i, m, news, e, o, j => RangeRest.succ fun t h tk F N => wpAny_mono (step i m news t h tk (by omega) j F N o) (fun f s₂ q => by
      have aux : ∀ {f : Flow} {s₂ : Shared}, UnrPost h₀ env.locals { s with heap := h, toks := tk } I (itR (a + ((i + 1 : Nat) : Int)) ((n : Int) - ((i + 1 : Nat) : Int))) (JEnd J i) Q f s₂ →
          UnrPost h₀ env.locals { s with heap := h, toks := tk } I (itR (a + ((i + 1 : Nat) : Int)) ((n : Int) - ((i + 1 : Nat) : Int))) (RangeRest prog w A E h₀ env x body Q s I a n k (i + 1)) Q f s₂ := fun {f s₂} q => by
        cases f with
        | next => obtain ⟨h', tk', m', n', e', F', N', o', r⟩ := q; exact ⟨h', tk', m', n', e', F', N', o', rangeRest_of J step fin k (i + 1) m' n' (by omega) o' r⟩
        | cont => obtain ⟨h', tk', m', n', e', F', N', o', r⟩ := q; exact ⟨h', tk', m', n', e', F', N', o', rangeRest_of J step fin k (i + 1) m' n' (by omega) o' r⟩
        | brk => exact q
        | ret v => exact q
      exact aux q) fun _ _ q => q
theorem iter_rangeJ {r : Addr} {n : Nat} {t₀ u₀ v₀ : Tok} {m₀ : PySem.Str → Option Value} {news : List (Addr × Obj)} (J : Nat → (PySem.Str → Option Value) → List (Addr × Obj) → Prop)
    (hr : IsRange s.heap r 0 (n : Int) 1 t₀ u₀ v₀) (hh : A.handled = none) (hb1 : n ≤ 100) (F : Fr h₀ env.locals s.heap m₀) (N : News h₀ env.locals s.heap news) (j0 : J 0 m₀ news)
    (step : ∀ I i m news t h tk, i < n → J i m news → Fr h₀ env.locals h (fun y => if y = x then some (.int (0 + (i : Int)) t) else m y) → News h₀ env.locals h ((I, itR (0 + ((i + 1 : Nat) : Int)) ((n : Int) - ((i + 1 : Nat) : Int))) :: news) →
      (∀ p ∈ news, p.1 ≠ I) →
      wpAny (model prog w) A (execs body env) (UnrPost h₀ env.locals { s with heap := h, toks := tk } I (itR (0 + ((i + 1 : Nat) : Int)) ((n : Int) - ((i + 1 : Nat) : Int))) (JEnd J i) Q) E { s with heap := h, toks := tk })
    (fin : ∀ m news h tk, J n m news → Fr h₀ env.locals h m → News h₀ env.locals h news → Q .next { s with heap := h, toks := tk }) :
    wpAny (model prog w) A (pyIter (.ref r)) (fun it s₂ => LoopAtV prog w A h₀ env x body Q E it s₂) E s := by
  have hn : Builtin.Range.rangeSize 0 (n : Int) 1 = n := by unfold Builtin.Range.rangeSize; split <;> (try split) <;> omega
  have hsm : Builtin.Range.small 0 (n : Int) 1 = true := (by decide +kernel : ∀ i : Fin 101, Builtin.Range.small 0 (i.val : Int) 1 = true) ⟨n, by omega⟩
  exact iter_rangeUnr (n := n) hh hr hsm hn F N fun I hI => rangeRest_of J (step I) fin n 0 m₀ news (by omega) (fun p hp => Nat.ne_of_lt (hI p hp)) j0
end
end Mine
end PartRj
section PartK1
theorem Mine.flush30 : True := by first | (w_top off; walk1) | trivial
open PySem PySem.W PySem.Calls PyProof.Rows
set_option Elab.async false
set_option maxRecDepth 100000
set_option maxHeartbeats 4000000
set_option rowWalk.seconds 0
set_option pp.maxSteps 6000
namespace Mine

structure RtZ where
  k0 : Tok
  k1 : Tok
  k2 : Tok
  k3 : Tok
  k4 : Tok
  k5 : Tok
  t0 : Tok
  t1 : Tok
  t2 : Tok
  t3 : Tok
  t4 : Tok
  t5 : Tok
theorem neRtZ : Nonempty RtZ := ⟨by constructor <;> exact default⟩
abbrev rtO (w : World) (z : RtZ) (f l m : Int) : Obj :=
  dictO [de w "first" z.k0 (.int f z.t0), de w "least" z.k1 (.int l z.t1), de w "most" z.k2 (.int m z.t2), de w "mean8" z.k3 (.int 0 z.t3), de w "spread4" z.k4 (.int 0 z.t4), de w "measured" z.k5 (.int 0 z.t5)] 6
inductive RtD (w : World) (f : Int) (l : Int) (m : Int) (o : Obj) : Prop where
  | mk (z : RtZ) (hh1 : o = rtO w z f l m) : RtD w f l m o
theorem RtD.of {w : World} {f : Int} {l : Int} {m : Int} {o : Obj} {k0 : Tok} {k1 : Tok} {k2 : Tok} {k3 : Tok} {k4 : Tok} {k5 : Tok} {t0 : Tok} {t1 : Tok} {t2 : Tok} {t3 : Tok} {t4 : Tok} {t5 : Tok} (e : o =  dictO [de w "first" k0 (.int f t0), de w "least" k1 (.int l t1), de w "most" k2 (.int m t2), de w "mean8" k3 (.int 0 t3), de w "spread4" k4 (.int 0 t4), de w "measured" k5 (.int 0 t5)] 6) : RtD w f l m o :=
  ⟨⟨k0, k1, k2, k3, k4, k5, t0, t1, t2, t3, t4, t5⟩, e⟩
structure CkZ where
  k0 : Tok
  k1 : Tok
  k2 : Tok
  k3 : Tok
  k4 : Tok
  t0 : Tok
  t1 : Tok
  t2 : Tok
theorem neCkZ : Nonempty CkZ := ⟨by constructor <;> exact default⟩
abbrev ckO (w : World) (z : CkZ) (es : Addr) (n : Int) : Obj :=
  dictO [de w "estimate" z.k0 (.ref es), de w "most_tries" z.k1 (.int 3 z.t0), de w "tries" z.k2 (.int n z.t1), de w "timed_end" z.k3 (.none), de w "timed_at" z.k4 (.int 0 z.t2)] 5
inductive CkD (w : World) (es : Addr) (n : Int) (o : Obj) : Prop where
  | mk (z : CkZ) (hh1 : o = ckO w z es n) : CkD w es n o
theorem CkD.of {w : World} {es : Addr} {n : Int} {o : Obj} {k0 : Tok} {k1 : Tok} {k2 : Tok} {k3 : Tok} {k4 : Tok} {t0 : Tok} {t1 : Tok} {t2 : Tok} (e : o =  dictO [de w "estimate" k0 (.ref es), de w "most_tries" k1 (.int 3 t0), de w "tries" k2 (.int n t1), de w "timed_end" k3 (.none), de w "timed_at" k4 (.int 0 t2)] 5) : CkD w es n o :=
  ⟨⟨k0, k1, k2, k3, k4, t0, t1, t2⟩, e⟩
inductive P_bounded_sp (es : Addr) (ed : Addr) (oE : Obj) (l : Int) (m : Int) (t : Int) (v : Value) (nl : List (Addr × Obj)) : Prop where
  | mk (x : _) (u : _) (hh1 : v = .int x u) (hh2 : (x = if t < l then l else if m < t then m else t)) (hh3 : nl = [(es, instObj 326 ed), (ed, oE)]) : P_bounded_sp es ed oE l m t v nl
theorem bounded_sp (w : World) (es ed : Addr) (oE : Obj) (f l m t : Int) (tt : Tok) (hE : RtD w f l m oE) :
    Sp w 755 3760 323 [.ref es, .int t tt] [(es, instObj 326 ed), (ed, oE)] (P_bounded_sp es ed oE l m t) := by
  obtain ⟨k0Z, rfl⟩ := hE
  refine Sp.enter (binds := [("self", .ref es), ("ticks", .int t tt)]) (by k_is) (by k_is) (by decide) (fun s X => BindsTo.of_eq rfl) (locs rfl) ?_
  intro env outer base g mean mg mb L' h₁ s Q E B X T F N ND ret
  obtain ⟨n_es_ed⟩ := nn2 ND
  revert B X T F N ND ret n_es_ed
  revert w es ed f l m t tt k0Z env outer base g mean mg mb L' h₁ s Q E
  (iterate 3 (refine dum ?_))
  refine eps24 (by repeat' (first | refine @instNonemptyProd _ _ ?_ ?_ | infer_instance | exact neW | exact neS | exact neRtZ)) ?_
  intro B X T F N ND ret n_es_ed
  have ND9 := ND
  have ret2 := fun v nl h tk m a b c d => ret v nl h tk m c a b d
  (repeat' (first | (k_unfold; (try dsimp only)) | (k_end; wrow_close) | ((with_reducible show wpAny _ _ (eval (Expr.Name _ _) _) _ _ _); first | ((k_here; (with_reducible first | (refine nmL (by first | exact nf246.1) (by k_asm) (by k_dflt (exact Eq.refl (some _))) ?_) | (refine nmL (by first | exact nf260.1 | exact nf260.2.1 | exact nf260.2.2.1) (by k_asm) (by k_dflt (exact Eq.refl (some _))) ?_) | (refine nmB nf260.2.2.2.1 (bk_range _) (by k_asm) (by k_asm) (by k_asm) ?_) | (refine nmL (by first | exact nf309.1) (by k_asm) (by k_dflt (exact Eq.refl (some _))) ?_) | (refine nmL (by first | exact nf316.1) (by k_asm) (by k_dflt (exact Eq.refl (some _))) ?_) | (refine nmL (by first | exact nf323.1 | exact nf323.2.1) (by k_asm) (by k_dflt (exact Eq.refl (some _))) ?_))))) | (first | (with_reducible refine ite_pos ?c9 ?_; (case c9 => first | with_reducible assumption | omega | (simp only [decide_eq_true_eq, decide_eq_false_iff_not]; omega))) | (with_reducible refine ite_neg ?c9 ?_; (case c9 => first | with_reducible assumption | omega | (simp only [decide_eq_true_eq, decide_eq_false_iff_not]; omega))) | (with_reducible refine ite_isFalse ?c9 ?_; (case c9 => with_reducible assumption))) | walk1 | (dsimp only; walk1) | (leave1; (try dsimp only)) | fail "no step"))
  all_goals (try dsimp only)
  all_goals (try k_unfold)
  all_goals (try dsimp only)
  all_goals (try k_unfold)
  all_goals (try dsimp only)
  all_goals (try k_unfold)
  all_goals (try dsimp only)
  all_goals (try (dsimp only))
  all_goals (with_reducible rename Fr _ _ _ _ => hf)
  all_goals (with_reducible rename News _ _ _ _ => hh)
  all_goals (refine ret2 _ _ _ _ _ hf hh ⟨_, _, rfl, ?_, rfl⟩ ND)
  all_goals first | rfl | omega | (split <;> omega)
inductive P_plain_sp (es : Addr) (ed : Addr) (oE : Obj) (f : Int) (v : Value) (nl : List (Addr × Obj)) : Prop where
  | mk (u : _) (hh1 : v = .int f u) (hh2 : nl = [(es, instObj 326 ed), (ed, oE)]) : P_plain_sp es ed oE f v nl
theorem plain_sp (w : World) (es ed : Addr) (oE : Obj) (f l m : Int) (hE : RtD w f l m oE) :
    Sp w 755 3760 309 [.ref es] [(es, instObj 326 ed), (ed, oE)] (P_plain_sp es ed oE f) := by
  obtain ⟨k0Z, rfl⟩ := hE
  refine Sp.enter (binds := [("self", .ref es)]) (by k_is) (by k_is) (by decide) (fun s X => BindsTo.of_eq rfl) (locs rfl) ?_
  intro env outer base g mean mg mb L' h₁ s Q E B X T F N ND ret
  obtain ⟨n_es_ed⟩ := nn2 ND
  revert B X T F N ND ret n_es_ed
  revert w es ed f l m k0Z env outer base g mean mg mb L' h₁ s Q E
  refine eps19 (by repeat' (first | refine @instNonemptyProd _ _ ?_ ?_ | infer_instance | exact neW | exact neS | exact neRtZ)) ?_
  intro B X T F N ND ret n_es_ed
  have ND9 := ND
  have ret2 := fun v nl h tk m a b c d => ret v nl h tk m c a b d
  (repeat' (first | (k_unfold; (try dsimp only)) | (k_end; wrow_close) | ((with_reducible show wpAny _ _ (eval (Expr.Name _ _) _) _ _ _); first | ((k_here; (with_reducible first | (refine nmL (by first | exact nf246.1) (by k_asm) (by k_dflt (exact Eq.refl (some _))) ?_) | (refine nmL (by first | exact nf260.1 | exact nf260.2.1 | exact nf260.2.2.1) (by k_asm) (by k_dflt (exact Eq.refl (some _))) ?_) | (refine nmB nf260.2.2.2.1 (bk_range _) (by k_asm) (by k_asm) (by k_asm) ?_) | (refine nmL (by first | exact nf309.1) (by k_asm) (by k_dflt (exact Eq.refl (some _))) ?_) | (refine nmL (by first | exact nf316.1) (by k_asm) (by k_dflt (exact Eq.refl (some _))) ?_) | (refine nmL (by first | exact nf323.1 | exact nf323.2.1) (by k_asm) (by k_dflt (exact Eq.refl (some _))) ?_))))) | (first | (with_reducible refine ite_pos ?c9 ?_; (case c9 => first | with_reducible assumption | omega | (simp only [decide_eq_true_eq, decide_eq_false_iff_not]; omega))) | (with_reducible refine ite_neg ?c9 ?_; (case c9 => first | with_reducible assumption | omega | (simp only [decide_eq_true_eq, decide_eq_false_iff_not]; omega))) | (with_reducible refine ite_isFalse ?c9 ?_; (case c9 => with_reducible assumption))) | walk1 | (dsimp only; walk1) | (leave1; (try dsimp only)) | fail "no step"))
  all_goals (try dsimp only)
  all_goals (try k_unfold)
  all_goals (try dsimp only)
  all_goals (try k_unfold)
  all_goals (try dsimp only)
  all_goals (try k_unfold)
  all_goals (try dsimp only)
  all_goals (try (dsimp only))
  all_goals (with_reducible rename Fr _ _ _ _ => hf)
  all_goals (with_reducible rename News _ _ _ _ => hh)
  all_goals (refine ret2 _ _ _ _ _ hf hh ⟨_, rfl, rfl⟩ ND)
inductive P_timeout_sp (es : Addr) (ed : Addr) (oE : Obj) (f : Int) (l : Int) (m : Int) (v : Value) (nl : List (Addr × Obj)) : Prop where
  | mk (x : _) (u : _) (hh1 : v = .int x u) (hh2 : (x = if f < l then l else if m < f then m else f)) (hh3 : nl = [(es, instObj 326 ed), (ed, oE)]) : P_timeout_sp es ed oE f l m v nl
theorem timeout_sp (w : World) (es ed : Addr) (oE : Obj) (f l m : Int) (hE : RtD w f l m oE) :
    Sp w 750 3740 316 [.ref es] [(es, instObj 326 ed), (ed, oE)] (P_timeout_sp es ed oE f l m) := by
  obtain ⟨k0Z, rfl⟩ := hE
  refine Sp.enter (binds := [("self", .ref es)]) (by k_is) (by k_is) (by decide) (fun s X => BindsTo.of_eq rfl) (locs rfl) ?_
  intro env outer base g mean mg mb L' h₁ s Q E B X T F N ND ret
  obtain ⟨n_es_ed⟩ := nn2 ND
  revert B X T F N ND ret n_es_ed
  revert w es ed f l m k0Z env outer base g mean mg mb L' h₁ s Q E
  refine eps19 (by repeat' (first | refine @instNonemptyProd _ _ ?_ ?_ | infer_instance | exact neW | exact neS | exact neRtZ)) ?_
  intro B X T F N ND ret n_es_ed
  have ND9 := ND
  have ret2 := fun v nl h tk m a b c d => ret v nl h tk m c a b d
  (repeat' (first | (k_unfold; (try dsimp only)) | (k_end; wrow_close) | ((with_reducible show wpAny _ _ (eval (Expr.Name _ _) _) _ _ _); first | ((k_here; (with_reducible first | (refine nmL (by first | exact nf246.1) (by k_asm) (by k_dflt (exact Eq.refl (some _))) ?_) | (refine nmL (by first | exact nf260.1 | exact nf260.2.1 | exact nf260.2.2.1) (by k_asm) (by k_dflt (exact Eq.refl (some _))) ?_) | (refine nmB nf260.2.2.2.1 (bk_range _) (by k_asm) (by k_asm) (by k_asm) ?_) | (refine nmL (by first | exact nf309.1) (by k_asm) (by k_dflt (exact Eq.refl (some _))) ?_) | (refine nmL (by first | exact nf316.1) (by k_asm) (by k_dflt (exact Eq.refl (some _))) ?_) | (refine nmL (by first | exact nf323.1 | exact nf323.2.1) (by k_asm) (by k_dflt (exact Eq.refl (some _))) ?_))))) | ((with_reducible show wpAny _ _ (call (Value.ref _) _) _ _ _); first | (((with_reducible show wpAny _ _ (call (Value.ref 309) _) _ _ _); k_dflt (first | ((refine Sp.useP (by k_asm) (by k_asm) (by k_asm) (by k_asm) (by k_asm) rfl rfl rfl rfl (by ktr_rel) ?znd (plain_sp _ _ _ _ _ _ _ (by exact (RtD.of rfl))) (nb rfl) (nb rfl) ?_; (case znd => k_allIn);  k_whole); intro v9 nl9 h9 tk9 P9; obtain ⟨t9, rfl, rfl⟩ := P9; intro F9 N9 ND9; dsimp only [List.cons_append, List.nil_append] at N9 ND9; (try k_sweep); (try dsimp only))))) | (((with_reducible show wpAny _ _ (call (Value.ref 323) _) _ _ _); k_dflt (first | ((refine Sp.useP (by k_asm) (by k_asm) (by k_asm) (by k_asm) (by k_asm) rfl rfl rfl rfl (by ktr_rel) ?znd (bounded_sp _ _ _ _ _ _ _ _ _ (by exact (RtD.of rfl))) (nb rfl) (nb rfl) ?_; (case znd => k_allIn);  k_whole); intro v9 nl9 h9 tk9 P9; obtain ⟨x9, t9, rfl, p91, rfl⟩ := P9; intro F9 N9 ND9; dsimp only [List.cons_append, List.nil_append] at N9 ND9; (try k_sweep); (try dsimp only)))))) | (first | (with_reducible refine ite_pos ?c9 ?_; (case c9 => first | with_reducible assumption | omega | (simp only [decide_eq_true_eq, decide_eq_false_iff_not]; omega))) | (with_reducible refine ite_neg ?c9 ?_; (case c9 => first | with_reducible assumption | omega | (simp only [decide_eq_true_eq, decide_eq_false_iff_not]; omega))) | (with_reducible refine ite_isFalse ?c9 ?_; (case c9 => with_reducible assumption))) | walk1 | (dsimp only; walk1) | (leave1; (try dsimp only)) | fail "no step"))
  all_goals (try dsimp only)
  all_goals (try k_unfold)
  all_goals (try dsimp only)
  all_goals (try k_unfold)
  all_goals (try dsimp only)
  all_goals (try k_unfold)
  all_goals (try dsimp only)
  all_goals (try (dsimp only))
  all_goals (with_reducible rename Fr _ _ _ _ => hf)
  all_goals (with_reducible rename News _ _ _ _ => hh)
  all_goals (refine ret2 _ _ _ _ _ hf hh ⟨_, _, rfl, p91, rfl⟩ ND)
theorem dbl_fold (T : Int) : ∀ (l : List Int), (List.foldl (fun (σ : Int × Unit) (k : Int) => (2 * σ.fst, ())) (T, ()) l).fst = T * 2 ^ l.length
  | [] => by rw [List.foldl_nil, List.length_nil, Int.pow_zero, Int.mul_one]
  | k :: l => by rw [List.foldl_cons, dbl_fold (2 * T) l, List.length_cons, Int.pow_succ, Int.mul_comm 2, Int.mul_assoc, Int.mul_comm 2]
theorem clamp {y l m : Int} (h : l ≤ m) : (if y < l then l else if m < y then m else y) = min (max y l) m := by
  by_cases a : y < l
  · rw [if_pos a, Int.max_eq_right (Int.le_of_lt a), Int.min_eq_left h]
  · rw [if_neg a, Int.max_eq_left (Int.not_lt.mp a)]
    by_cases b : m < y
    · rw [if_pos b, Int.min_eq_right (Int.le_of_lt b)]
    · rw [if_neg b, Int.min_eq_left (Int.not_lt.mp b)]
theorem waited_law {T f l m n x y : Int} (hT : T = if f < l then l else if m < f then m else f) (hx : y = (List.foldl (fun (σ : Int × Unit) (k : Int) => (2 * σ.fst, ())) (T, ()) (rangeInts 0 1 (n - 0).toNat)).fst)
    (hf : 1 ≤ f) (hl : 1 ≤ l) (hl2 : l ≤ 20) (hm : 20 ≤ m) (h : x = if y < l then l else if m < y then m else y) : x = min (max (min (max f l) m * 2 ^ n.toNat) l) m := by
  rw [dbl_fold, rangeInts_length, Int.sub_zero] at hx
  have z := Int.le_trans hl2 hm
  rw [clamp z] at hT h
  rw [← hT, ← hx, h]
inductive P_waited_sp (ck : Addr) (cd : Addr) (es : Addr) (ed : Addr) (oC : Obj) (oE : Obj) (f : Int) (l : Int) (m : Int) (n : Int) (v : Value) (nl : List (Addr × Obj)) : Prop where
  | mk (x : _) (u : _) (hh1 : v = .int x u) (hh2 : x = min (max (min (max f l) m * 2 ^ n.toNat) l) m) (hh3 : nl = [(ck, instObj 270 cd), (cd, oC), (es, instObj 326 ed), (ed, oE)]) : P_waited_sp ck cd es ed oC oE f l m n v nl
theorem waited_sp (w : World) (ck cd es ed : Addr) (oC oE : Obj) (f l m n : Int) (hC : CkD w es n oC) (hE : RtD w f l m oE) (hf : 1 ≤ f) (hf2 : f ≤ 100) (hl : 1 ≤ l) (hl2 : l ≤ 20) (hm : 20 ≤ m) (hm2 : m ≤ 100) (hn : n = 0 ∨ n = 1 ∨ n = 2 ∨ n = 3 ∨ n = 4 ∨ n = 5) :
    Sp w 745 3720 260 [.ref ck] [(ck, instObj 270 cd), (cd, oC), (es, instObj 326 ed), (ed, oE)] (P_waited_sp ck cd es ed oC oE f l m n) := by
  obtain ⟨j0Z, rfl⟩ := hC
  obtain ⟨k0Z, rfl⟩ := hE
  have hn0 : 0 ≤ n := by omega
  have hn5 : n ≤ 5 := by omega
  clear hn
  refine Sp.enter (binds := [("self", .ref ck)]) (by k_is) (by k_is) (by decide) (fun s X => BindsTo.of_eq rfl) (locs rfl) ?_
  intro env outer base g mean mg mb L' h₁ s Q E B X T F N ND ret
  obtain ⟨n_ck_cd, n_ck_es, n_ck_ed, n_cd_es, n_cd_ed, n_es_ed⟩ := nn4 ND
  revert hf hf2 hl hl2 hm hm2 hn0 hn5 B X T F N ND ret n_ck_cd n_ck_es n_ck_ed n_cd_es n_cd_ed n_es_ed
  revert w ck cd es ed f l m n j0Z k0Z env outer base g mean mg mb L' h₁ s Q E
  (iterate 1 (refine dum ?_))
  refine eps24 (by repeat' (first | refine @instNonemptyProd _ _ ?_ ?_ | infer_instance | exact neW | exact neS | exact neRtZ | exact neCkZ)) ?_
  intro hf hf2 hl hl2 hm hm2 hn0 hn5 B X T F N ND ret n_ck_cd n_ck_es n_ck_ed n_cd_es n_cd_ed n_es_ed
  have ND9 := ND
  have ret2 := fun v nl h tk m a b c d => ret v nl h tk m c a b d
  (repeat' (first | (k_unfold; (try dsimp only)) | (k_end; wrow_close) | ((with_reducible show wpAny _ _ (eval (Expr.Name _ _) _) _ _ _); first | ((k_here; (with_reducible first | (refine nmL (by first | exact nf246.1) (by k_asm) (by k_dflt (exact Eq.refl (some _))) ?_) | (refine nmL (by first | exact nf260.1 | exact nf260.2.1 | exact nf260.2.2.1) (by k_asm) (by k_dflt (exact Eq.refl (some _))) ?_) | (refine nmB nf260.2.2.2.1 (bk_range _) (by k_asm) (by k_asm) (by k_asm) ?_) | (refine nmL (by first | exact nf309.1) (by k_asm) (by k_dflt (exact Eq.refl (some _))) ?_) | (refine nmL (by first | exact nf316.1) (by k_asm) (by k_dflt (exact Eq.refl (some _))) ?_) | (refine nmL (by first | exact nf323.1 | exact nf323.2.1) (by k_asm) (by k_dflt (exact Eq.refl (some _))) ?_))))) | ((with_reducible show wpAny _ _ (call (Value.ref _) _) _ _ _); first | (((with_reducible show wpAny _ _ (call (Value.ref 316) _) _ _ _); k_dflt (first | ((refine Sp.useP (by k_asm) (by k_asm) (by k_asm) (by k_asm) (by k_asm) rfl rfl rfl rfl (by ktr_rel) ?znd (timeout_sp _ _ _ _ _ _ _ (by exact (RtD.of rfl))) (nb rfl) (nb rfl) ?_; (case znd => k_allIn);  k_whole); intro v9 nl9 h9 tk9 P9; obtain ⟨x9, t9, rfl, p91, rfl⟩ := P9; intro F9 N9 ND9; dsimp only [List.cons_append, List.nil_append] at N9 ND9; (try k_sweep); (try dsimp only))))) | (((with_reducible show wpAny _ _ (call (Value.ref 323) _) _ _ _); k_dflt (first | ((refine Sp.useP (by k_asm) (by k_asm) (by k_asm) (by k_asm) (by k_asm) rfl rfl rfl rfl (by ktr_rel) ?znd (bounded_sp _ _ _ _ _ _ _ _ _ (by exact (RtD.of rfl))) (nb rfl) (nb rfl) ?_; (case znd => k_allIn);  k_whole); intro v9 nl9 h9 tk9 P9; obtain ⟨x9, t9, rfl, p91, rfl⟩ := P9; intro F9 N9 ND9; dsimp only [List.cons_append, List.nil_append] at N9 ND9; (try k_sweep); (try dsimp only)))))) | (first | (with_reducible refine ite_pos ?c9 ?_; (case c9 => first | with_reducible assumption | omega | (simp only [decide_eq_true_eq, decide_eq_false_iff_not]; omega))) | (with_reducible refine ite_neg ?c9 ?_; (case c9 => first | with_reducible assumption | omega | (simp only [decide_eq_true_eq, decide_eq_false_iff_not]; omega))) | (with_reducible refine ite_isFalse ?c9 ?_; (case c9 => with_reducible assumption))) | walk1 | (dsimp only; walk1) | (leave1; (try dsimp only)) | fail "no step"))
  all_goals (with_reducible rename Fr _ _ _ _ => hf9)
  all_goals (with_reducible rename News _ _ _ _ => hh9)
  refine ret2 _ _ _ _ _ hf9 (news_pick hh9 (by ktr_rel)) ⟨_, _, rfl, waited_law (by assumption) rfl hf hl hl2 hm p91, rfl⟩ ?_
  k_allIn
inductive P_backoff_sp (w : World) (ck : Addr) (cd : Addr) (es : Addr) (n : Int) (v : Value) (nl : List (Addr × Obj)) : Prop where
  | mk (oC' : _) (hh1 : v = .bool (decide (n + 1 ≤ 3))) (hh2 : CkD w es (n + 1) oC') (hh3 : nl = [(ck, instObj 270 cd), (cd, oC')]) : P_backoff_sp w ck cd es n v nl
theorem backoff_sp (w : World) (ck cd es : Addr) (oC : Obj) (n : Int) (hC : CkD w es n oC) (hn : 0 ≤ n) (hn2 : n ≤ 5) :
    Sp w 745 3720 246 [.ref ck] [(ck, instObj 270 cd), (cd, oC)] (P_backoff_sp w ck cd es n) := by
  obtain ⟨j0Z, rfl⟩ := hC
  refine Sp.enter (binds := [("self", .ref ck)]) (by k_is) (by k_is) (by decide) (fun s X => BindsTo.of_eq rfl) (locs rfl) ?_
  intro env outer base g mean mg mb L' h₁ s Q E B X T F N ND ret
  obtain ⟨n_ck_cd⟩ := nn2 ND
  revert hn hn2 B X T F N ND ret n_ck_cd
  revert w ck cd es n j0Z env outer base g mean mg mb L' h₁ s Q E
  (iterate 1 (refine dum ?_))
  refine eps19 (by repeat' (first | refine @instNonemptyProd _ _ ?_ ?_ | infer_instance | exact neW | exact neS | exact neCkZ)) ?_
  intro hn hn2 B X T F N ND ret n_ck_cd
  have ND9 := ND
  have ret2 := fun v nl h tk m a b c d => ret v nl h tk m c a b d
  (repeat' (first | (k_unfold; (try dsimp only)) | (k_end; wrow_close) | ((with_reducible show wpAny _ _ (eval (Expr.Name _ _) _) _ _ _); first | ((k_here; (with_reducible first | (refine nmL (by first | exact nf246.1) (by k_asm) (by k_dflt (exact Eq.refl (some _))) ?_) | (refine nmL (by first | exact nf260.1 | exact nf260.2.1 | exact nf260.2.2.1) (by k_asm) (by k_dflt (exact Eq.refl (some _))) ?_) | (refine nmB nf260.2.2.2.1 (bk_range _) (by k_asm) (by k_asm) (by k_asm) ?_) | (refine nmL (by first | exact nf309.1) (by k_asm) (by k_dflt (exact Eq.refl (some _))) ?_) | (refine nmL (by first | exact nf316.1) (by k_asm) (by k_dflt (exact Eq.refl (some _))) ?_) | (refine nmL (by first | exact nf323.1 | exact nf323.2.1) (by k_asm) (by k_dflt (exact Eq.refl (some _))) ?_))))) | (first | (with_reducible refine ite_pos ?c9 ?_; (case c9 => first | with_reducible assumption | omega | (simp only [decide_eq_true_eq, decide_eq_false_iff_not]; omega))) | (with_reducible refine ite_neg ?c9 ?_; (case c9 => first | with_reducible assumption | omega | (simp only [decide_eq_true_eq, decide_eq_false_iff_not]; omega))) | (with_reducible refine ite_isFalse ?c9 ?_; (case c9 => with_reducible assumption))) | walk1 | (dsimp only; walk1) | (leave1; (try dsimp only)) | fail "no step"))
  all_goals (try dsimp only)
  all_goals (try k_unfold)
  all_goals (try dsimp only)
  all_goals (try k_unfold)
  all_goals (try dsimp only)
  all_goals (try k_unfold)
  all_goals (try dsimp only)
  all_goals (try (dsimp only))
  all_goals (with_reducible rename Fr _ _ _ _ => hf)
  all_goals (with_reducible rename News _ _ _ _ => hh)
  all_goals (refine ret2 _ _ _ _ _ hf (news_pick hh (by ktr_rel)) ⟨_, rfl, (CkD.of rfl), rfl⟩ ?_)
  all_goals k_allIn
end Mine
end PartK1
section PartK2
theorem Mine.flush31 : True := by first | (w_top off; walk1) | trivial
open PySem PySem.W PySem.Calls PyProof.Rows
set_option Elab.async false
set_option maxRecDepth 100000
set_option maxHeartbeats 4000000
set_option rowWalk.seconds 0
set_option pp.maxSteps 6000
namespace Mine
inductive P_rtt_sp (w : World) (f : Int) (l : Int) (m : Int) (v : Value) (nl : List (Addr × Obj)) : Prop where
  | mk (y : _) (d : _) (o : _) (hh1 : v = .ref y) (hh2 : RtD w f l m o) (hh3 : nl = [(y, instObj 326 d), (d, o)]) : P_rtt_sp w f l m v nl
theorem rtt_init (w : World) (x dx : Addr) (f : Int) (l : Int) (m : Int) (ta tb tc : Tok) : Sp w 780 3900 288 [.ref x, .int f ta, .int l tb, .int m tc] [(x, instObj 326 dx), (dx, emptyDict)] (fun v nl => v = .none ∧ P_rtt_sp w f l m (.ref x) nl) := by
  refine Sp.enter (binds := [("self", .ref x), ("first", .int f ta), ("least", .int l tb), ("most", .int m tc)]) (by k_is) (by k_is) (by decide) (fun s X => BindsTo.of_eq rfl) (locs rfl) ?_
  intro env outer base g mean mg mb L' h₁ s Q E B X T F N ND ret
  obtain ⟨n_x_dx⟩ := nn2 ND
  revert B X T F N ND ret n_x_dx
  revert w x dx f l m ta tb tc env outer base g mean mg mb L' h₁ s Q E
  (iterate 3 (refine dum ?_))
  refine eps24 (by repeat' (first | refine @instNonemptyProd _ _ ?_ ?_ | infer_instance | exact neW | exact neS)) ?_
  intro B X T F N ND ret n_x_dx
  have ND9 := ND
  have ret2 := fun v nl h tk m a b c d => ret v nl h tk m c a b d
  (repeat' (first | (k_unfold; (try dsimp only)) | (k_end; wrow_close) | ((with_reducible show wpAny _ _ (eval (Expr.Name _ _) _) _ _ _); first | ((k_here; (with_reducible first | (refine nmL (by first | exact nf211.1 | exact nf211.2.1 | exact nf211.2.2.1) (by k_asm) (by k_dflt (exact Eq.refl (some _))) ?_) | (refine nmL (by first | exact nf288.1 | exact nf288.2.1 | exact nf288.2.2.1 | exact nf288.2.2.2.1) (by k_asm) (by k_dflt (exact Eq.refl (some _))) ?_) | (refine nmL (by first | exact nf801.1 | exact nf801.2.1 | exact nf801.2.2.1 | exact nf801.2.2.2.1 | exact nf801.2.2.2.2.1 | exact nf801.2.2.2.2.2.1 | exact nf801.2.2.2.2.2.2.1 | exact nf801.2.2.2.2.2.2.2.1 | exact nf801.2.2.2.2.2.2.2.2.1 | exact nf801.2.2.2.2.2.2.2.2.2.1 | exact nf801.2.2.2.2.2.2.2.2.2.2.1) (by k_asm) (by k_dflt (exact Eq.refl (some _))) ?_) | (refine nmL (by first | exact nf815.1 | exact nf815.2.1) (by k_asm) (by k_dflt (exact Eq.refl (some _))) ?_) | (refine nmK nf815.2.2.1 (gk_RttEstimate _) (by k_asm) (by k_asm) (by k_asm) ?_) | (refine nmK nf815.2.2.2.1 (gk_RetransmitClock _) (by k_asm) (by k_asm) (by k_asm) ?_))))) | walk1 | (dsimp only; walk1) | (leave1; (try dsimp only)) | fail "no step"))
  all_goals (try dsimp only)
  all_goals (try k_unfold)
  all_goals (try dsimp only)
  all_goals (try k_unfold)
  all_goals (try dsimp only)
  all_goals (try k_unfold)
  all_goals (try dsimp only)
  all_goals (try (dsimp only))
  all_goals (with_reducible rename Fr _ _ _ _ => hf)
  all_goals (with_reducible rename News _ _ _ _ => hh)
  all_goals (refine ret2 _ _ _ _ _ hf (news_pick hh (by ktr_rel)) ⟨rfl, _, _, _, rfl, (RtD.of rfl), rfl⟩ ?_)
  all_goals k_allIn
theorem rtt_sp (w : World) (f : Int) (l : Int) (m : Int) (ta tb tc : Tok) : Sp w 775 3890 326 [.int f ta, .int l tb, .int m tc] [] (P_rtt_sp w f l m) :=
  Sp.cls (by k_is) (by k_is) (by k_is) (by decide) (by decide) fun x dx _ _ => rtt_init w x dx f l m ta tb tc
inductive P_ckk_sp (w : World) (es : Addr) (v : Value) (nl : List (Addr × Obj)) : Prop where
  | mk (y : _) (d : _) (o : _) (hh1 : v = .ref y) (hh2 : CkD w es 0 o) (hh3 : nl = [(y, instObj 270 d), (d, o)]) : P_ckk_sp w es v nl
theorem ckk_init (w : World) (x dx : Addr) (es : Addr) (ta : Tok)  : Sp w 780 3900 211 [.ref x, .ref es, .int 3 ta] [(x, instObj 270 dx), (dx, emptyDict)] (fun v nl => v = .none ∧ P_ckk_sp w es (.ref x) nl) := by
  refine Sp.enter (binds := [("self", .ref x), ("estimate", .ref es), ("most_tries", .int 3 ta)]) (by k_is) (by k_is) (by decide) (fun s X => BindsTo.of_eq rfl) (locs rfl) ?_
  intro env outer base g mean mg mb L' h₁ s Q E B X T F N ND ret
  obtain ⟨n_x_dx⟩ := nn2 ND
  revert B X T F N ND ret n_x_dx
  revert w x dx es ta env outer base g mean mg mb L' h₁ s Q E
  (iterate 2 (refine dum ?_))
  refine eps19 (by repeat' (first | refine @instNonemptyProd _ _ ?_ ?_ | infer_instance | exact neW | exact neS)) ?_
  intro B X T F N ND ret n_x_dx
  have ND9 := ND
  have ret2 := fun v nl h tk m a b c d => ret v nl h tk m c a b d
  (repeat' (first | (k_unfold; (try dsimp only)) | (k_end; wrow_close) | ((with_reducible show wpAny _ _ (eval (Expr.Name _ _) _) _ _ _); first | ((k_here; (with_reducible first | (refine nmL (by first | exact nf211.1 | exact nf211.2.1 | exact nf211.2.2.1) (by k_asm) (by k_dflt (exact Eq.refl (some _))) ?_) | (refine nmL (by first | exact nf288.1 | exact nf288.2.1 | exact nf288.2.2.1 | exact nf288.2.2.2.1) (by k_asm) (by k_dflt (exact Eq.refl (some _))) ?_) | (refine nmL (by first | exact nf801.1 | exact nf801.2.1 | exact nf801.2.2.1 | exact nf801.2.2.2.1 | exact nf801.2.2.2.2.1 | exact nf801.2.2.2.2.2.1 | exact nf801.2.2.2.2.2.2.1 | exact nf801.2.2.2.2.2.2.2.1 | exact nf801.2.2.2.2.2.2.2.2.1 | exact nf801.2.2.2.2.2.2.2.2.2.1 | exact nf801.2.2.2.2.2.2.2.2.2.2.1) (by k_asm) (by k_dflt (exact Eq.refl (some _))) ?_) | (refine nmL (by first | exact nf815.1 | exact nf815.2.1) (by k_asm) (by k_dflt (exact Eq.refl (some _))) ?_) | (refine nmK nf815.2.2.1 (gk_RttEstimate _) (by k_asm) (by k_asm) (by k_asm) ?_) | (refine nmK nf815.2.2.2.1 (gk_RetransmitClock _) (by k_asm) (by k_asm) (by k_asm) ?_))))) | walk1 | (dsimp only; walk1) | (leave1; (try dsimp only)) | fail "no step"))
  all_goals (try dsimp only)
  all_goals (try k_unfold)
  all_goals (try dsimp only)
  all_goals (try k_unfold)
  all_goals (try dsimp only)
  all_goals (try k_unfold)
  all_goals (try dsimp only)
  all_goals (try (dsimp only))
  all_goals (with_reducible rename Fr _ _ _ _ => hf)
  all_goals (with_reducible rename News _ _ _ _ => hh)
  all_goals (refine ret2 _ _ _ _ _ hf (news_pick hh (by ktr_rel)) ⟨rfl, _, _, _, rfl, (CkD.of rfl), rfl⟩ ?_)
  all_goals k_allIn
theorem ckk_sp (w : World) (es : Addr) (ta : Tok)  : Sp w 775 3890 270 [.ref es, .int 3 ta] [] (P_ckk_sp w es) :=
  Sp.cls (by k_is) (by k_is) (by k_is) (by decide) (by decide) fun x dx _ _ => ckk_init w x dx es ta 
inductive P_clock_sp (w : World) (lm : Addr) (ld : Addr) (oM : Obj) (f : Int) (l : Int) (m : Int) (v : Value) (nl : List (Addr × Obj)) : Prop where
  | mk (ck : _) (cd : _) (es : _) (ed : _) (oC : _) (oE : _) (hh1 : v = .ref ck) (hh2 : CkD w es 0 oC) (hh3 : RtD w f l m oE) (hh4 : nl = [(ck, instObj 270 cd), (cd, oC), (es, instObj 326 ed), (ed, oE), (lm, instObj 804 ld), (ld, oM)]) : P_clock_sp w lm ld oM f l m v nl
theorem clock_sp (w : World) (lm ld : Addr) (oM : Obj) (ring mss room f l m : Int) (hM : LimD w ring mss room f l m oM) :
    Sp w 745 3720 815 [.ref lm] [(lm, instObj 804 ld), (ld, oM)] (P_clock_sp w lm ld oM f l m) := by
  obtain ⟨j0Z, rfl⟩ := hM
  refine Sp.enter (binds := [("limits", .ref lm)]) (by k_is) (by k_is) (by decide) (fun s X => BindsTo.of_eq rfl) (locs rfl) ?_
  intro env outer base g mean mg mb L' h₁ s Q E B X T F N ND ret
  obtain ⟨n_lm_ld⟩ := nn2 ND
  revert B X T F N ND ret n_lm_ld
  revert w lm ld ring mss room f l m j0Z env outer base g mean mg mb L' h₁ s Q E
  (iterate 2 (refine dum ?_))
  refine eps24 (by repeat' (first | refine @instNonemptyProd _ _ ?_ ?_ | infer_instance | exact neW | exact neS | exact neLmZ)) ?_
  intro B X T F N ND ret n_lm_ld
  have ND9 := ND
  have ret2 := fun v nl h tk m a b c d => ret v nl h tk m c a b d
  (repeat' (first | (k_unfold; (try dsimp only)) | (k_end; wrow_close) | ((with_reducible show wpAny _ _ (eval (Expr.Name _ _) _) _ _ _); first | ((k_here; (with_reducible first | (refine nmL (by first | exact nf211.1 | exact nf211.2.1 | exact nf211.2.2.1) (by k_asm) (by k_dflt (exact Eq.refl (some _))) ?_) | (refine nmL (by first | exact nf288.1 | exact nf288.2.1 | exact nf288.2.2.1 | exact nf288.2.2.2.1) (by k_asm) (by k_dflt (exact Eq.refl (some _))) ?_) | (refine nmL (by first | exact nf801.1 | exact nf801.2.1 | exact nf801.2.2.1 | exact nf801.2.2.2.1 | exact nf801.2.2.2.2.1 | exact nf801.2.2.2.2.2.1 | exact nf801.2.2.2.2.2.2.1 | exact nf801.2.2.2.2.2.2.2.1 | exact nf801.2.2.2.2.2.2.2.2.1 | exact nf801.2.2.2.2.2.2.2.2.2.1 | exact nf801.2.2.2.2.2.2.2.2.2.2.1) (by k_asm) (by k_dflt (exact Eq.refl (some _))) ?_) | (refine nmL (by first | exact nf815.1 | exact nf815.2.1) (by k_asm) (by k_dflt (exact Eq.refl (some _))) ?_) | (refine nmK nf815.2.2.1 (gk_RttEstimate _) (by k_asm) (by k_asm) (by k_asm) ?_) | (refine nmK nf815.2.2.2.1 (gk_RetransmitClock _) (by k_asm) (by k_asm) (by k_asm) ?_))))) | ((with_reducible show wpAny _ _ (call (Value.ref _) _) _ _ _); first | (((with_reducible show wpAny _ _ (call (Value.ref 270) _) _ _ _); k_dflt (first | ((refine Sp.use (ckk_sp _ _ _) (by k_asm) (by k_asm) (by k_asm) (by k_asm) (by k_asm) rfl rfl rfl rfl (nb rfl) (nb rfl) (by ktr_rel) ?znd ?_; (case znd => k_allIn);  k_whole); intro v9 nl9 h9 tk9 P9; obtain ⟨ck9, cd9, oC9, rfl, hC9, rfl⟩ := P9; intro F9 N9 ND9; dsimp only [List.cons_append, List.nil_append] at N9 ND9; (try k_sweep); (try dsimp only))))) | (((with_reducible show wpAny _ _ (call (Value.ref 326) _) _ _ _); k_dflt (first | ((refine Sp.use (rtt_sp _ _ _ _ _ _ _) (by k_asm) (by k_asm) (by k_asm) (by k_asm) (by k_asm) rfl rfl rfl rfl (nb rfl) (nb rfl) (by ktr_rel) ?znd ?_; (case znd => k_allIn);  k_whole); intro v9 nl9 h9 tk9 P9; obtain ⟨es9, ed9, oE9, rfl, hE9, rfl⟩ := P9; intro F9 N9 ND9; dsimp only [List.cons_append, List.nil_append] at N9 ND9; (try k_sweep); (try dsimp only); (have nn90 : NN es9 ed9 := nijp ND9 0 1 rfl rfl rfl)))))) | walk1 | (dsimp only; walk1) | (leave1; (try dsimp only)) | fail "no step"))
  all_goals (try dsimp only)
  all_goals (try k_unfold)
  all_goals (try dsimp only)
  all_goals (try k_unfold)
  all_goals (try dsimp only)
  all_goals (try k_unfold)
  all_goals (try dsimp only)
  all_goals (try (dsimp only))
  all_goals (with_reducible rename Fr _ _ _ _ => hf)
  all_goals (with_reducible rename News _ _ _ _ => hh)
  all_goals (refine ret2 _ _ _ _ _ hf (news_pick hh (by ktr_rel)) ⟨_, _, _, _, _, _, rfl, hC9, hE9, rfl⟩ ?_)
  all_goals k_allIn
inductive P_limcls_sp (w : World) (ring : Int) (mss : Int) (room : Int) (f0 : Int) (l0 : Int) (m0 : Int) (v : Value) (nl : List (Addr × Obj)) : Prop where
  | mk (y : _) (d : _) (o : _) (hh1 : v = .ref y) (hh2 : LimD w ring mss room f0 l0 m0 o) (hh3 : nl = [(y, instObj 804 d), (d, o)]) : P_limcls_sp w ring mss room f0 l0 m0 v nl
theorem limcls_init (w : World) (x dx : Addr) (ring : Int) (mss : Int) (room : Int) (f0 : Int) (l0 : Int) (m0 : Int) (t0 t1 t2 t3 t4 t5 t6 t7 t8 t9 : Tok) : Sp w 780 3900 801 [.ref x, .int ring t0, .int mss t1, .int 40 t2, .int room t3, .int f0 t4, .int l0 t5, .int m0 t6, .int 3 t7, .int 5 t8, .int 30 t9] [(x, instObj 804 dx), (dx, emptyDict)] (fun v nl => v = .none ∧ P_limcls_sp w ring mss room f0 l0 m0 (.ref x) nl) := by
  refine Sp.enter (binds := [("self", .ref x), ("ring", .int ring t0), ("mss", .int mss t1), ("send_room", .int 40 t2), ("receive_room", .int room t3), ("first_timeout", .int f0 t4), ("least_timeout", .int l0 t5), ("most_timeout", .int m0 t6), ("most_tries", .int 3 t7), ("ack_delay", .int 5 t8), ("time_wait", .int 30 t9)]) (by k_is) (by k_is) (by decide) (fun s X => BindsTo.of_eq rfl) (locs rfl) ?_
  intro env outer base g mean mg mb L' h₁ s Q E B X T F N ND ret
  obtain ⟨n_x_dx⟩ := nn2 ND
  revert B X T F N ND ret n_x_dx
  revert w x dx ring mss room f0 l0 m0 t0 t1 t2 t3 t4 t5 t6 t7 t8 t9 env outer base g mean mg mb L' h₁ s Q E
  (iterate 1 (refine dum ?_))
  refine eps32 (by repeat' (first | refine @instNonemptyProd _ _ ?_ ?_ | infer_instance | exact neW | exact neS)) ?_
  intro B X T F N ND ret n_x_dx
  have ND9 := ND
  have ret2 := fun v nl h tk m a b c d => ret v nl h tk m c a b d
  (repeat' (first | (k_unfold; (try dsimp only)) | (k_end; wrow_close) | ((with_reducible show wpAny _ _ (eval (Expr.Name _ _) _) _ _ _); first | ((k_here; (with_reducible first | (refine nmL (by first | exact nf211.1 | exact nf211.2.1 | exact nf211.2.2.1) (by k_asm) (by k_dflt (exact Eq.refl (some _))) ?_) | (refine nmL (by first | exact nf288.1 | exact nf288.2.1 | exact nf288.2.2.1 | exact nf288.2.2.2.1) (by k_asm) (by k_dflt (exact Eq.refl (some _))) ?_) | (refine nmL (by first | exact nf801.1 | exact nf801.2.1 | exact nf801.2.2.1 | exact nf801.2.2.2.1 | exact nf801.2.2.2.2.1 | exact nf801.2.2.2.2.2.1 | exact nf801.2.2.2.2.2.2.1 | exact nf801.2.2.2.2.2.2.2.1 | exact nf801.2.2.2.2.2.2.2.2.1 | exact nf801.2.2.2.2.2.2.2.2.2.1 | exact nf801.2.2.2.2.2.2.2.2.2.2.1) (by k_asm) (by k_dflt (exact Eq.refl (some _))) ?_) | (refine nmL (by first | exact nf815.1 | exact nf815.2.1) (by k_asm) (by k_dflt (exact Eq.refl (some _))) ?_) | (refine nmK nf815.2.2.1 (gk_RttEstimate _) (by k_asm) (by k_asm) (by k_asm) ?_) | (refine nmK nf815.2.2.2.1 (gk_RetransmitClock _) (by k_asm) (by k_asm) (by k_asm) ?_))))) | walk1 | (dsimp only; walk1) | (leave1; (try dsimp only)) | fail "no step"))
  all_goals (try dsimp only)
  all_goals (try k_unfold)
  all_goals (try dsimp only)
  all_goals (try k_unfold)
  all_goals (try dsimp only)
  all_goals (try k_unfold)
  all_goals (try dsimp only)
  all_goals (try (dsimp only))
  all_goals (with_reducible rename Fr _ _ _ _ => hf)
  all_goals (with_reducible rename News _ _ _ _ => hh)
  all_goals (refine ret2 _ _ _ _ _ hf (news_pick hh (by ktr_rel)) ⟨rfl, _, _, _, rfl, (LimD.of rfl), rfl⟩ ?_)
  all_goals k_allIn
theorem limcls_sp (w : World) (ring : Int) (mss : Int) (room : Int) (f0 : Int) (l0 : Int) (m0 : Int) (t0 t1 t2 t3 t4 t5 t6 t7 t8 t9 : Tok) : Sp w 775 3890 804 [.int ring t0, .int mss t1, .int 40 t2, .int room t3, .int f0 t4, .int l0 t5, .int m0 t6, .int 3 t7, .int 5 t8, .int 30 t9] [] (P_limcls_sp w ring mss room f0 l0 m0) :=
  Sp.cls (by k_is) (by k_is) (by k_is) (by decide) (by decide) fun x dx _ _ => limcls_init w x dx ring mss  room f0 l0 m0    t0 t1 t2 t3 t4 t5 t6 t7 t8 t9
end Mine
end PartK2
section PartK3
theorem Mine.flush32 : True := by first | (w_top off; walk1) | trivial
open PySem PySem.W PySem.Calls PyProof.Rows
set_option Elab.async false
set_option maxRecDepth 100000
set_option maxHeartbeats 4000000
set_option rowWalk.seconds 0
set_option pp.maxSteps 6000
namespace Mine

theorem ne_same {prog : Program} {w : World} {A : Around} {E : Value → Shared → Prop} {s : Shared} {a b : Int} {t u : Tok} {Q : Value → Shared → Prop} (e : a = b) (h : Q (.bool false) s) : wpAny (model prog w) A (compareOp .NotEq (.int a t) (.int b u)) Q E s :=
  ne_int (by rw [e, bne_self_eq_false]; exact h)

theorem ne_sameB {prog : Program} {w : World} {A : Around} {E : Value → Shared → Prop} {s : Shared} {a b : Bool} {Q : Value → Shared → Prop} (e : a = b) (h : Q (.bool false) s) : wpAny (model prog w) A (compareOp .NotEq (.bool a) (.bool b)) Q E s :=
  ne_bool (by rw [e, bne_self_eq_false]; exact h)
theorem nd_off {news news' : List (Addr × Obj)} {I : Addr} (o : Obj) (off : ∀ p ∈ news, p.1 ≠ I) (nd : (news'.map (·.1)).Nodup) (e : news.map (·.1) = news'.map (·.1)) : (((I, o) :: news).map (·.1)).Nodup := by
  rw [List.map_cons, List.nodup_cons]
  refine ⟨fun q => ?_, e ▸ nd⟩
  obtain ⟨p, hp, h⟩ := List.mem_map.mp q
  exact off p hp h
theorem lt6 (i : Nat) (h : i < 6) : ((i : Int) = 0 ∨ (i : Int) = 1 ∨ (i : Int) = 2 ∨ (i : Int) = 3 ∨ (i : Int) = 4 ∨ (i : Int) = 5) :=
  (by decide : ∀ i : Fin 6, ((i.val : Int) = 0 ∨ (i.val : Int) = 1 ∨ (i.val : Int) = 2 ∨ (i.val : Int) = 3 ∨ (i.val : Int) = 4 ∨ (i.val : Int) = 5)) ⟨i, h⟩
inductive JClk (w : World) (ck cd es ed lm ld : Addr) (oE oM : Obj) (f l m : Int) (ta tb tc : Tok) (i : Nat) (mm : PySem.Str → Option Value) (news : List (Addr × Obj)) : Prop where
  | mk (oC : Obj) (hC : CkD w es (i : Int) oC) (h1 : mm (PySem.Str.ofString "clock_here") = some (.ref ck)) (h2 : mm (PySem.Str.ofString "first") = some (.int f ta)) (h3 : mm (PySem.Str.ofString "least") = some (.int l tb)) (h4 : mm (PySem.Str.ofString "most") = some (.int m tc))
      (e : news = [(ck, instObj 270 cd), (cd, oC), (es, instObj 326 ed), (ed, oE), (lm, instObj 804 ld), (ld, oM)]) : JClk w ck cd es ed lm ld oE oM f l m ta tb tc i mm news
set_option hygiene false in
local macro_rules | `(tactic| walk_at "compareOp NotEq int int") => `(tactic| (k_here; (with_reducible refine gd11 ?_); k_dflt (first | (refine ne_same ?he9 ?_; (case he9 => (simp only [mx_ite, mn_ite, Int.zero_add]; exact p91)); clear p91))))
set_option hygiene false in
local macro_rules | `(tactic| walk_at "compareOp NotEq bool bool") => `(tactic| (k_here; k_dflt (refine ne_sameB (by rw [Int.zero_add]) ?_)))
set_option hygiene false in
local macro_rules | `(tactic| mul_fits) => `(tactic| exact PySem.IntMulOk.of_left (intBits_le_64 (by (repeat' split) <;> omega) (by (repeat' split) <;> omega)))
set_option hygiene false in
local macro_rules | `(tactic| walk_at "pyIter ref") => `(tactic| ((with_reducible show wpAny _ _ (pyIter (Value.ref _)) (fun it s₂ => LoopAtV _ _ _ _ _ _ _ _ _ it s₂) _ _); (with_reducible rename IsRange _ _ _ _ _ _ _ _ => rg9); k_dflt (((refine iter_rangeJ (n := 6) (JClk _ _ _ _ _ _ _ _ _ _ _ _ _ _ _) rg9 (by rfl) (by decide) (by k_asm) (by k_asm) (by exact ⟨_, hC9, rfl, rfl, rfl, rfl, rfl⟩) ?_ ?_); clear rg9; rotate_left 1; (intro m9 news9 h9 tk9 hJ9 F9 N9; obtain ⟨oC9, hC9, h91, h92, h93, h94, rfl⟩ := hJ9; (replace F9 := frAt hL F9 rfl); (replace N9 := newsAt hL N9 rfl)); rotate_right 1; (intro I9 i9 m9 news9 t9 h9 tk9 hi9 hJ9 F9 N9 off9; obtain ⟨oC9, hC9, h91, h92, h93, h94, rfl⟩ := hJ9; (replace F9 := frAt hL F9 rfl); (replace N9 := newsAt hL N9 rfl); have ND9 := nd_off (itR 0 0) off9 ND9 rfl; clear off9; have hC9' := hC9; obtain ⟨jj0Z, rfl⟩ := hC9'); (all_goals (try k_sweep)); (all_goals (try dsimp only))))))
set_option hygiene false in
local macro_rules | `(tactic| walk_at "JEnd") => `(tactic| (k_dflt ((exact ⟨_, hC9, by assumption, by assumption, by assumption, by assumption, rfl⟩))))
theorem clkright_sp (w : World) (lm ld : Addr) (oM : Obj) (ring mss room f l m : Int) (ta tb tc : Tok) (hM : LimD w ring mss room f l m oM) (hf : 1 ≤ f) (hf2 : f ≤ 100) (hl : 1 ≤ l) (hl2 : l ≤ 20) (hm : 20 ≤ m) (hm2 : m ≤ 100) :
    Sp w 720 3600 1116 [.ref lm, .int f ta, .int l tb, .int m tc] [(lm, instObj 804 ld), (ld, oM)] (fun v nl => v = .bool true ∧ nl = [(lm, instObj 804 ld), (ld, oM)]) := by
  refine Sp.enter (binds := [("limits", .ref lm), ("first", .int f ta), ("least", .int l tb), ("most", .int m tc)]) (by k_is) (by k_is) (by decide) (fun s X => BindsTo.of_eq rfl) (locs rfl) ?_
  intro env outer base g mean mg mb L' h₁ s Q E B X T F N ND ret
  obtain ⟨n_lm_ld⟩ := nn2 ND
  obtain hL : Hd L' := .mk
  revert hM hf hf2 hl hl2 hm hm2 B X T F N ND ret n_lm_ld hL
  revert w lm ld oM ring mss room f l m ta tb tc env outer base g mean mg mb L' h₁ s Q E
  (iterate 3 (refine dum ?_))
  refine eps28 (by repeat' (first | refine @instNonemptyProd _ _ ?_ ?_ | infer_instance | exact neW | exact neS)) ?_
  intro hM hf hf2 hl hl2 hm hm2 B X T F N ND ret n_lm_ld hL
  have ND9 := ND
  have ret2 := fun v nl h tk m a b c d => ret v nl h tk m c a b d
  (repeat' (first | (k_unfold; (try dsimp only)) | (k_end; wrow_close) | ((with_reducible show wpAny _ _ (eval (Expr.Name _ _) _) _ _ _); first | ((k_here; k_dflt ((refine PyProof.Rows.ld (by with_reducible assumption) (by first | exact h91 | exact h92 | exact h93 | exact h94) ?_)))) | ((k_here; (with_reducible first | (refine nmL (by first | exact nf1116.1 | exact nf1116.2.1 | exact nf1116.2.2.1 | exact nf1116.2.2.2.1 | exact nf1116.2.2.2.2.1 | exact nf1116.2.2.2.2.2.1) (by k_asm) (by k_dflt (exact Eq.refl (some _))) ?_) | (refine nmK nf1116.2.2.2.2.2.2.1 (gk_clock_of _) (by k_asm) (by k_asm) (by k_asm) ?_) | (refine nmB nf1116.2.2.2.2.2.2.2.1 (bk_range _) (by k_asm) (by k_asm) (by k_asm) ?_) | (refine nmB nf1116.2.2.2.2.2.2.2.2.1 (bk_min _) (by k_asm) (by k_asm) (by k_asm) ?_) | (refine nmB nf1116.2.2.2.2.2.2.2.2.2.1 (bk_max _) (by k_asm) (by k_asm) (by k_asm) ?_))))) | ((with_reducible show wpAny _ _ (call (Value.ref _) _) _ _ _); first | (((with_reducible show wpAny _ _ (call (Value.ref 246) _) _ _ _); k_dflt (first | ((refine Sp.useP (by k_asm) (by k_asm) (by k_asm) (by k_asm) (by k_asm) rfl rfl rfl rfl (by ktr_rel) ?znd (backoff_sp _ _ _ _ _ _ (by assumption) ?a1 ?a2) (nb rfl) (nb rfl) ?_; (case znd => k_allIn); (case a1 => omega); (case a2 => omega); k_whole); intro v9 nl9 h9 tk9 P9; obtain ⟨oC9, rfl, hC9, rfl⟩ := P9; intro F9 N9 ND9; dsimp only [List.cons_append, List.nil_append] at N9 ND9; (try k_sweep); (try dsimp only); (have hC9' := hC9); (obtain ⟨jj0Z, rfl⟩ := hC9'))))) | (((with_reducible show wpAny _ _ (call (Value.ref 260) _) _ _ _); k_dflt (first | ((refine Sp.useP (by k_asm) (by k_asm) (by k_asm) (by k_asm) (by k_asm) rfl rfl rfl rfl (by ktr_rel) ?znd (waited_sp _ _ _ _ _ _ _ _ _ _ _ (by assumption) (by assumption) ?a1 ?a2 ?a3 ?a4 ?a5 ?a6 ?a7) (nb rfl) (nb rfl) ?_; (case znd => k_allIn); (case a1 => with_reducible assumption); (case a2 => with_reducible assumption); (case a3 => with_reducible assumption); (case a4 => with_reducible assumption); (case a5 => with_reducible assumption); (case a6 => with_reducible assumption);(case a7 => exact lt6 _ (by with_reducible assumption)); k_whole); intro v9 nl9 h9 tk9 P9; obtain ⟨x9, t9, rfl, p91, rfl⟩ := P9; intro F9 N9 ND9; dsimp only [List.cons_append, List.nil_append] at N9 ND9; (try k_sweep); (try dsimp only))))) | (((with_reducible show wpAny _ _ (call (Value.ref 815) _) _ _ _); k_dflt (first | ((refine Sp.useP (by k_asm) (by k_asm) (by k_asm) (by k_asm) (by k_asm) rfl rfl rfl rfl (by ktr_rel) ?znd (clock_sp _ _ _ _ _ _ _ _ _ _ (by assumption)) (nb rfl) (nb rfl) ?_; (case znd => k_allIn);  k_whole); intro v9 nl9 h9 tk9 P9; obtain ⟨ck9, cd9, es9, ed9, oC9, oE9, rfl, hC9, hE9, rfl⟩ := P9; intro F9 N9 ND9; dsimp only [List.cons_append, List.nil_append] at N9 ND9; (try k_sweep); (try dsimp only); (obtain ⟨nn90, nn91, nn92, nn93, nn94, nn95, nn96, nn97, nn98, nn99, nn910, nn911, nn912, nn913, _⟩ := nn6 ND9); (have hC9' := hC9); (obtain ⟨jj0Z, rfl⟩ := hC9')))))) | walk1 | (dsimp only; walk1) | (leave1; (try dsimp only)) | fail "no step"))
  all_goals (try dsimp only)
  all_goals (try k_unfold)
  all_goals (try dsimp only)
  all_goals (try k_unfold)
  all_goals (try dsimp only)
  all_goals (try k_unfold)
  all_goals (try dsimp only)
  all_goals (try (dsimp only))
  all_goals (with_reducible rename Fr _ _ _ _ => hf)
  all_goals (with_reducible rename News _ _ _ _ => hh)
  all_goals (refine ret2 _ _ _ _ _ hf (news_pick hh (by ktr_rel)) ⟨rfl, rfl⟩ ND)
end Mine
end PartK3
section PartS3a
theorem Mine.flush33 : True := by first | (w_top off; walk1) | trivial
open PySem PySem.W PySem.Calls PyProof.Rows
set_option Elab.async false
set_option maxRecDepth 100000
set_option maxHeartbeats 4000000
set_option rowWalk.seconds 0
set_option pp.maxSteps 6000
namespace Mine
theorem cong_init (w : World) (x dx : Addr) (a : Int) (b : Int) (c : Int) (ta tb tc : Tok) : Sp w 780 3900 92 [.ref x, .int a ta, .int b tb, .int c tc] [(x, instObj 158 dx), (dx, emptyDict)] (fun v nl => v = .none ∧ ∃ y, (Value.ref x = .ref y) ∧ nl = [(y, instObj 158 dx)]) := by
  refine Sp.enter (binds := [("self", .ref x), ("mss", .int a ta), ("first", .int b tb), ("most", .int c tc)]) (by k_is) (by k_is) (by decide) (fun s X => BindsTo.of_eq rfl) (locs rfl) ?_
  intro env outer base g mean mg mb L' h₁ s Q E B X T F N ND ret
  obtain ⟨n_x_dx⟩ := nn2 ND
  revert B X T F N ND ret n_x_dx
  revert w x dx a b c ta tb tc env outer base g mean mg mb L' h₁ s Q E
  (iterate 3 (refine dum ?_))
  refine eps24 (by repeat' (first | refine @instNonemptyProd _ _ ?_ ?_ | infer_instance | exact neW | exact neS)) ?_
  intro B X T F N ND ret n_x_dx
  have ND9 := ND
  have ret2 := fun v nl h tk m a b c d => ret v nl h tk m c a b d
  (repeat' (first | (k_unfold; (try dsimp only)) | (k_end; wrow_close) | ((with_reducible show wpAny _ _ (eval (Expr.Name _ _) _) _ _ _); first | ((k_here; (with_reducible first | (refine nmL (by first | exact nf92.1 | exact nf92.2.1 | exact nf92.2.2.1 | exact nf92.2.2.2.1) (by k_asm) (by k_dflt (exact Eq.refl (some _))) ?_))))) | walk1 | (dsimp only; walk1) | (leave1; (try dsimp only)) | fail "no step"))
  all_goals (try dsimp only)
  all_goals (try k_unfold)
  all_goals (try dsimp only)
  all_goals (try k_unfold)
  all_goals (try dsimp only)
  all_goals (try k_unfold)
  all_goals (try dsimp only)
  all_goals (try (dsimp only))
  all_goals (with_reducible rename Fr _ _ _ _ => hf)
  all_goals (with_reducible rename News _ _ _ _ => hh)
  all_goals (refine ret2 _ _ _ _ _ hf (news_pick hh (by ktr_rel)) ⟨rfl, _, rfl, rfl⟩ ?_)
  all_goals k_allIn
inductive P_cong_sp (v : Value) (nl : List (Addr × Obj)) : Prop where
  | mk (y : _) (dx : _) (hh1 : v = .ref y) (hh2 : nl = [(y, instObj 158 dx)]) : P_cong_sp v nl
theorem cong_sp (w : World) (a : Int) (b : Int) (c : Int) (ta tb tc : Tok) : Sp w 775 3890 158 [.int a ta, .int b tb, .int c tc] [] P_cong_sp :=
  Sp.cls (by k_is) (by k_is) (by k_is) (by decide) (by decide) fun x dx _ _ => (cong_init w x dx a b c ta tb tc).mono fun v nl ⟨h1, y, h2, h3⟩ => ⟨h1, y, dx, h2, h3⟩
end Mine
end PartS3a
section PartS3b
theorem Mine.flush34 : True := by first | (w_top off; walk1) | trivial
open PySem PySem.W PySem.Calls PyProof.Rows
set_option Elab.async false
set_option maxRecDepth 100000
set_option maxHeartbeats 4000000
set_option rowWalk.seconds 0
set_option pp.maxSteps 6000
namespace Mine
theorem sender_init (w : World) (x dx : Addr) (a : Int) (b : Int) (c : Int) (ta tb tc : Tok) (td : Tok) : Sp w 780 3900 479 [.ref x, .int a ta, .int b tb, .int c tc, .int 40 td] [(x, instObj 652 dx), (dx, emptyDict)] (fun v nl => v = .none ∧ ∃ y, (Value.ref x = .ref y) ∧ nl = [(y, instObj 652 dx)]) := by
  refine Sp.enter (binds := [("self", .ref x), ("iss", .int a ta), ("ring", .int b tb), ("mss", .int c tc), ("room", .int 40 td)]) (by k_is) (by k_is) (by decide) (fun s X => BindsTo.of_eq rfl) (locs rfl) ?_
  intro env outer base g mean mg mb L' h₁ s Q E B X T F N ND ret
  obtain ⟨n_x_dx⟩ := nn2 ND
  revert B X T F N ND ret n_x_dx
  revert w x dx a b c ta tb tc td env outer base g mean mg mb L' h₁ s Q E
  (iterate 2 (refine dum ?_))
  refine eps24 (by repeat' (first | refine @instNonemptyProd _ _ ?_ ?_ | infer_instance | exact neW | exact neS)) ?_
  intro B X T F N ND ret n_x_dx
  have ND9 := ND
  have ret2 := fun v nl h tk m a b c d => ret v nl h tk m c a b d
  (repeat' (first | (k_unfold; (try dsimp only)) | (k_end; wrow_close) | ((with_reducible show wpAny _ _ (eval (Expr.Name _ _) _) _ _ _); first | ((k_here; (with_reducible first | (refine nmL (by first | exact nf479.1 | exact nf479.2.1 | exact nf479.2.2.1 | exact nf479.2.2.2.1 | exact nf479.2.2.2.2.1) (by k_asm) (by k_dflt (exact Eq.refl (some _))) ?_) | (refine nmK nf479.2.2.2.2.2.1 (gk_PeerWindow _) (by k_asm) (by k_asm) (by k_asm) ?_) | (refine nmK nf479.2.2.2.2.2.2.1 (gk_SendQueue _) (by k_asm) (by k_asm) (by k_asm) ?_))))) | walk1 | (dsimp only; walk1) | (leave1; (try dsimp only)) | fail "no step"))
  all_goals (try dsimp only)
  all_goals (try k_unfold)
  all_goals (try dsimp only)
  all_goals (try k_unfold)
  all_goals (try dsimp only)
  all_goals (try k_unfold)
  all_goals (try dsimp only)
  all_goals (try (dsimp only))
  all_goals (with_reducible rename Fr _ _ _ _ => hf)
  all_goals (with_reducible rename News _ _ _ _ => hh)
  all_goals (refine ret2 _ _ _ _ _ hf (news_pick hh (by ktr_rel)) ⟨rfl, _, rfl, rfl⟩ ?_)
  all_goals k_allIn
inductive P_sender_sp (v : Value) (nl : List (Addr × Obj)) : Prop where
  | mk (y : _) (dx : _) (hh1 : v = .ref y) (hh2 : nl = [(y, instObj 652 dx)]) : P_sender_sp v nl
theorem sender_sp (w : World) (a : Int) (b : Int) (c : Int) (ta tb tc : Tok) (td : Tok) : Sp w 775 3890 652 [.int a ta, .int b tb, .int c tc, .int 40 td] [] P_sender_sp :=
  Sp.cls (by k_is) (by k_is) (by k_is) (by decide) (by decide) fun x dx _ _ => (sender_init w x dx a b c ta tb tc td).mono fun v nl ⟨h1, y, h2, h3⟩ => ⟨h1, y, dx, h2, h3⟩
end Mine
end PartS3b
section PartS3c
theorem Mine.flush35 : True := by first | (w_top off; walk1) | trivial
open PySem PySem.W PySem.Calls PyProof.Rows
set_option Elab.async false
set_option maxRecDepth 100000
set_option maxHeartbeats 4000000
set_option rowWalk.seconds 0
set_option pp.maxSteps 6000
namespace Mine
inductive P_ack_sp (w : World) (v : Value) (nl : List (Addr × Obj)) : Prop where
  | mk (y : _) (d : _) (o : _) (hh1 : v = .ref y) (hh2 : AckD w false o) (hh3 : nl = [(y, instObj 74 d), (d, o)]) : P_ack_sp w v nl
theorem ack_init (w : World) (x dx : Addr) (ta : Tok) : Sp w 780 3900 35 [.ref x, .int 5 ta] [(x, instObj 74 dx), (dx, emptyDict)] (fun v nl => v = .none ∧ P_ack_sp w (.ref x) nl) := by
  refine Sp.enter (binds := [("self", .ref x), ("delay", .int 5 ta)]) (by k_is) (by k_is) (by decide) (fun s X => BindsTo.of_eq rfl) (locs rfl) ?_
  intro env outer base g mean mg mb L' h₁ s Q E B X T F N ND ret
  obtain ⟨n_x_dx⟩ := nn2 ND
  revert B X T F N ND ret n_x_dx
  revert w x dx ta env outer base g mean mg mb L' h₁ s Q E
  (iterate 3 (refine dum ?_))
  refine eps19 (by repeat' (first | refine @instNonemptyProd _ _ ?_ ?_ | infer_instance | exact neW | exact neS)) ?_
  intro B X T F N ND ret n_x_dx
  have ND9 := ND
  have ret2 := fun v nl h tk m a b c d => ret v nl h tk m c a b d
  (repeat' (first | (k_unfold; (try dsimp only)) | (k_end; wrow_close) | ((with_reducible show wpAny _ _ (eval (Expr.Name _ _) _) _ _ _); first | ((k_here; (with_reducible first | (refine nmL (by first | exact nf35.1 | exact nf35.2.1) (by k_asm) (by k_dflt (exact Eq.refl (some _))) ?_))))) | walk1 | (dsimp only; walk1) | (leave1; (try dsimp only)) | fail "no step"))
  all_goals (try dsimp only)
  all_goals (try k_unfold)
  all_goals (try dsimp only)
  all_goals (try k_unfold)
  all_goals (try dsimp only)
  all_goals (try k_unfold)
  all_goals (try dsimp only)
  all_goals (try (dsimp only))
  all_goals (with_reducible rename Fr _ _ _ _ => hf)
  all_goals (with_reducible rename News _ _ _ _ => hh)
  all_goals (refine ret2 _ _ _ _ _ hf (news_pick hh (by ktr_rel)) ⟨rfl, _, _, _, rfl, ⟨_, _, _, _, _, _, _, _, rfl, by decide, by decide, .inl rfl, fun h => (nomatch h), fun _ => ⟨rfl, rfl⟩⟩, rfl⟩ ?_)
  all_goals k_allIn
theorem ack_sp (w : World) (ta : Tok) : Sp w 775 3890 74 [.int 5 ta] [] (P_ack_sp w) :=
  Sp.cls (by k_is) (by k_is) (by k_is) (by decide) (by decide) fun x dx _ _ => ack_init w x dx ta
end Mine
end PartS3c
section PartS3d
theorem Mine.flush36 : True := by first | (w_top off; walk1) | trivial
open PySem PySem.W PySem.Calls PyProof.Rows
set_option Elab.async false
set_option maxRecDepth 100000
set_option maxHeartbeats 4000000
set_option rowWalk.seconds 0
set_option pp.maxSteps 6000
namespace Mine
set_option hygiene false in
local macro_rules | `(tactic| walk_at "eval ListComp") => `(tactic| (k_here; lcg_look; lcg_calm; k_dflt (refine LCg.ListComp_U (F₀ := by k_asm) (by rfl) (by decide) (by rfl) (by decide) (by rfl) ?_); k_dflt lcg_toSrc))
set_option hygiene false in
local macro_rules | `(tactic| walk_at "CompSrc") => `(tactic| (k_here; k_dflt (refine LCg.CompSrc.range (n := 16) (by rfl) (by k_asm) (by k_asm) (by assumption) (by first | decide | rfl) (by first | rfl | decide) (by first | size_fits | exact Nat.le_of_ble_eq_true rfl) ?_; intro g')))
set_option hygiene false in
local macro_rules | `(tactic| walk_at "CompRest") => `(tactic| (k_dflt ((refine comp16 ?znd ?_; (case znd => k_allIn)); intro q0 q1 q2 q3 q4 q5 q6 q7 q8 q9 q10 q11 q12 q13 q14 q15 D9 h9 tk9 F9 N9 ND9; (have nd9 := ND9); (dsimp only [mapc, mapn] at nd9); (have m0 : NN D9 q2 := nij nd9 0 1 rfl rfl rfl); (have m1 : NN D9 q12 := nij nd9 0 2 rfl rfl rfl); (have m2 : NN D9 _ := nij nd9 0 3 rfl rfl rfl); (have m3 : NN D9 _ := nij nd9 0 4 rfl rfl rfl); (have m4 : NN q2 q12 := nij nd9 1 2 rfl rfl rfl); (have m5 : NN q2 _ := nij nd9 1 3 rfl rfl rfl); (have m6 : NN q2 _ := nij nd9 1 4 rfl rfl rfl); (have m7 : NN q12 _ := nij nd9 2 3 rfl rfl rfl); (have m8 : NN q12 _ := nij nd9 2 4 rfl rfl rfl); clear nd9; (try dsimp only))))
inductive P_wh_sp (w : World) (v : Value) (nl : List (Addr × Obj)) : Prop where
  | mk (y : _) (d : _) (sl : _) (s2 : _) (s12 : _) (lt : _) (en : _) (oW : _) (oS : _) (o2 : _) (o12 : _) (oL : _) (oE : _) (hh1 : v = .ref y) (hh2 : WheD w sl lt en oW) (hh3 : SlD s2 s12 oS) (hh4 : LI0 o2) (hh5 : LI0 o12) (hh6 : LI0 oL) (hh7 : oE.IsDictOf (PySem.intKind pp w) []) (hh8 : @Ne Nat en 1) (hh9 : nl = [(y, instObj 783 d), (d, oW), (sl, oS), (s2, o2), (s12, o12), (lt, oL), (en, oE)]) : P_wh_sp w v nl
theorem wh_init (w : World) (x dx : Addr) : Sp w 780 3900 733 [.ref x] [(x, instObj 783 dx), (dx, emptyDict)] (fun v nl => v = .none ∧ P_wh_sp w (.ref x) nl) := by
  refine Sp.enter (binds := [("self", .ref x), ("size", .int 16 1155)]) (by k_is) (by k_is) (by decide) (fun s X => binds_K X rfl (by k_is) rfl rfl rfl) (locs rfl) ?_
  intro env outer base g mean mg mb L' h₁ s Q E B X T F N ND ret
  obtain ⟨n_x_dx⟩ := nn2 ND
  revert B X T F N ND ret n_x_dx
  revert w x dx env outer base g mean mg mb L' h₁ s Q E
  (iterate 4 (refine dum ?_))
  refine eps19 (by repeat' (first | refine @instNonemptyProd _ _ ?_ ?_ | infer_instance | exact neW | exact neS)) ?_
  intro B X T F N ND ret n_x_dx
  have ND9 := ND
  have ret2 := fun v nl h tk m a b c d => ret v nl h tk m c a b d
  (repeat' (first | (k_unfold; (try dsimp only)) | (k_end; wrow_close) | ((with_reducible show wpAny _ _ (eval (Expr.Name _ _) _) _ _ _); first | ((k_here; (with_reducible first | (refine nmL (by first | exact nf733.1 | exact nf733.2.1) (by k_asm) (by k_dflt (exact Eq.refl (some _))) ?_) | (refine nmB nf733.2.2.1 (bk_range _) (by k_asm) (by k_asm) (by k_asm) ?_))))) | walk1 | (dsimp only; walk1) | (leave1; (try dsimp only)) | fail "no step"))
  all_goals (try dsimp only)
  all_goals (try k_unfold)
  all_goals (try dsimp only)
  all_goals (try k_unfold)
  all_goals (try dsimp only)
  all_goals (try k_unfold)
  all_goals (try dsimp only)
  all_goals (try (dsimp only))
  all_goals (with_reducible rename Fr _ _ _ _ => hf)
  all_goals (with_reducible rename News _ _ _ _ => hh)
  all_goals (with_reducible rename ((_ : Addr) == sysModules) = false => lo9)
  all_goals (refine ret2 _ _ _ _ _ hf (news_pick hh (by ktr_rel)) ⟨rfl, _, _, D9, q2, q12, _, _, _, _, _, _, _, _, rfl, (WheD.of rfl), (SlD.of rfl), ⟨_, rfl⟩, ⟨_, rfl⟩, ⟨_, rfl⟩, (by assumption), (by simpa [sysModules] using lo9), rfl⟩ ?_)
  all_goals k_allIn
theorem wh_sp (w : World) : Sp w 775 3890 783 [] [] (P_wh_sp w) :=
  Sp.cls (by k_is) (by k_is) (by k_is) (by decide) (by decide) fun x dx _ _ => wh_init w x dx
end Mine
end PartS3d
section PartS3
theorem Mine.flush37 : True := by first | (w_top off; walk1) | trivial
open PySem PySem.W PySem.Calls PyProof.Rows
set_option Elab.async false
set_option maxRecDepth 100000
set_option maxHeartbeats 4000000
set_option rowWalk.seconds 0
set_option pp.maxSteps 6000
namespace Mine
inductive P_clockd_sp (lm : Addr) (ld : Addr) (oM : Obj) (v : Value) (nl : List (Addr × Obj)) : Prop where
  | mk (ck : _) (hh1 : v = .ref ck) (hh2 : nl = [(lm, instObj 804 ld), (ld, oM)]) : P_clockd_sp lm ld oM v nl
theorem clockd_sp (w : World) (lm ld : Addr) (oM : Obj) (ring mss room f l m : Int) (hM : LimD w ring mss room f l m oM) :
    Sp w 745 3720 815 [.ref lm] [(lm, instObj 804 ld), (ld, oM)] (P_clockd_sp lm ld oM) :=
  (clock_sp w lm ld oM ring mss room f l m hM).sub fun v nl ⟨ck, cd, es, ed, oC, oE, h1, _, _, h2⟩ => by
    subst h2
    exact ⟨[(lm, instObj 804 ld), (ld, oM)], [(ck, instObj 270 cd), (cd, oC), (es, instObj 326 ed), (ed, oE)], by ktr_rel, ck, h1, rfl⟩
inductive P_tcb_sp (w : World) (lm : Addr) (ld : Addr) (lo : Addr) (re : Addr) (oM : Obj) (v : Value) (nl : List (Addr × Obj)) : Prop where
  | mk (y : _) (yd : _) (ac : _) (ad : _) (wh : _) (d : _) (sl : _) (s2 : _) (s12 : _) (lt : _) (en : _) (a3 : _) (a1 : _) (oT : _) (oA : _) (oW : _) (oS : _) (o2 : _) (o12 : _) (oL : _) (oE : _) (oA3 : _) (oA1 : _) (hh1 : v = .ref y) (hh2 : TcD w lm lo re ac wh .none oT) (hh3 : AckD w false oA) (hh4 : WE w wh d sl s2 s12 lt en a3 a1 oW oS o2 o12 oL oE oA3 oA1) (hh5 : nl = [(y, instObj 847 yd), (yd, oT), (lm, instObj 804 ld), (ld, oM), (ac, instObj 74 ad), (ad, oA), (wh, instObj 783 d), (d, oW), (sl, oS), (s2, o2), (s12, o12), (lt, oL), (en, oE), (a3, oA3), (a1, oA1)]) : P_tcb_sp w lm ld lo re oM v nl
theorem tcinit_sp (w : World) (tc td lm ld lo re : Addr) (oM : Obj) (ring mss room f0 l0 m0 iss : Int) (ti : Tok) (hM : LimD w ring mss room f0 l0 m0 oM) (h1 : 1 ≤ mss) (h2 : mss ≤ 66000) :
    Sp w 740 3700 829 [.ref tc, .ref lm, .ref lo, .ref re, .int iss ti] [(tc, instObj 847 td), (td, emptyDict), (lm, instObj 804 ld), (ld, oM)] (fun v nl => v = .none ∧ P_tcb_sp w lm ld lo re oM (.ref tc) nl) := by
  have hM' := hM
  obtain ⟨j0Z, rfl⟩ := hM'
  refine Sp.enter (binds := [("self", .ref tc), ("limits", .ref lm), ("local", .ref lo), ("remote", .ref re), ("iss", .int iss ti)]) (by k_is) (by k_is) (by decide) (fun s X => BindsTo.of_eq rfl) (locs rfl) ?_
  intro env outer base g mean mg mb L' h₁ s Q E B X T F N ND ret
  obtain nd_td_tc : NN td tc := nd_ne ND (by ktr_rel)
  obtain nd_td_lm : NN td lm := nd_ne ND (by ktr_rel)
  obtain nd_td_ld : NN td ld := nd_ne ND (by ktr_rel)
  revert h1 h2 hM B X T F N ND ret nd_td_tc nd_td_lm nd_td_ld
  revert w tc td lm ld lo re ring mss room f0 l0 m0 iss ti j0Z env outer base g mean mg mb L' h₁ s Q E
  refine eps28 (by repeat' (first | refine @instNonemptyProd _ _ ?_ ?_ | infer_instance | exact neW | exact neS | exact neLmZ)) ?_
  intro h1 h2 hM B X T F N ND ret nd_td_tc nd_td_lm nd_td_ld
  have ND9 := ND
  have ret2 := fun v nl h tk m a b c d => ret v nl h tk m c a b d
  (repeat' (first | (k_unfold; (try dsimp only)) | (k_end; wrow_close) | ((with_reducible show wpAny _ _ (eval (Expr.Name _ _) _) _ _ _); first | ((k_here; (with_reducible first | (refine nmL (by first | exact nf815.1 | exact nf815.2.1) (by k_asm) (by k_dflt (exact Eq.refl (some _))) ?_) | (refine nmK nf815.2.2.1 (gk_RttEstimate _) (by k_asm) (by k_asm) (by k_asm) ?_) | (refine nmK nf815.2.2.2.1 (gk_RetransmitClock _) (by k_asm) (by k_asm) (by k_asm) ?_) | (refine nmL (by first | exact nf829.1 | exact nf829.2.1 | exact nf829.2.2.1 | exact nf829.2.2.2.1 | exact nf829.2.2.2.2.1) (by k_asm) (by k_dflt (exact Eq.refl (some _))) ?_) | (refine nmK nf829.2.2.2.2.2.1 (gk_Sender _) (by k_asm) (by k_asm) (by k_asm) ?_) | (refine nmK nf829.2.2.2.2.2.2.1 (gk_clock_of _) (by k_asm) (by k_asm) (by k_asm) ?_) | (refine nmK nf829.2.2.2.2.2.2.2.1 (gk_Congestion _) (by k_asm) (by k_asm) (by k_asm) ?_) | (refine nmK nf829.2.2.2.2.2.2.2.2.1 (gk_AckPolicy _) (by k_asm) (by k_asm) (by k_asm) ?_) | (refine nmK nf829.2.2.2.2.2.2.2.2.2.1 (gk_Wheel _) (by k_asm) (by k_asm) (by k_asm) ?_))))) | ((with_reducible show wpAny _ _ (call (Value.ref _) _) _ _ _); first | (((with_reducible show wpAny _ _ (call (Value.ref 815) _) _ _ _); k_dflt (first | ((refine Sp.use (clockd_sp _ _ _ _ _ _ _ _ _ _ (by assumption)) (by k_asm) (by k_asm) (by k_asm) (by k_asm) (by k_asm) rfl rfl rfl rfl (nb rfl) (nb rfl) (by ktr_rel) ?znd ?_; (case znd => k_allIn);  k_whole); intro v9 nl9 h9 tk9 P9; obtain ⟨ck9, rfl, rfl⟩ := P9; intro F9 N9 ND9; dsimp only [List.cons_append, List.nil_append] at N9 ND9; (try k_sweep); (try dsimp only))))) | (((with_reducible show wpAny _ _ (call (Value.ref 783) _) _ _ _); k_dflt (first | ((refine Sp.use (wh_sp _) (by k_asm) (by k_asm) (by k_asm) (by k_asm) (by k_asm) rfl rfl rfl rfl (nb rfl) (nb rfl) (by ktr_rel) ?znd ?_; (case znd => k_allIn);  k_whole); intro v9 nl9 h9 tk9 P9; obtain ⟨wh9, wd9, sl9, s29, s129, lt9, en9, oW9, oS9, o29, o129, oL9, oE9, rfl, hw1, hw2, hw3, hw4, hw5, hw6, hw7, rfl⟩ := P9; intro F9 N9 ND9; dsimp only [List.cons_append, List.nil_append] at N9 ND9; (try k_sweep); (try dsimp only); (have nd_td_wh9 := nnl nd_td_tc (c := wh9) ND9 (by ktr_rel)); (have nd_td_wd9 := nnl nd_td_tc (c := wd9) ND9 (by ktr_rel)); (have nd_td_sl9 := nnl nd_td_tc (c := sl9) ND9 (by ktr_rel)); (have nd_td_s29 := nnl nd_td_tc (c := s29) ND9 (by ktr_rel)); (have nd_td_s129 := nnl nd_td_tc (c := s129) ND9 (by ktr_rel)); (have nd_td_lt9 := nnl nd_td_tc (c := lt9) ND9 (by ktr_rel)); (have nd_td_en9 := nnl nd_td_tc (c := en9) ND9 (by ktr_rel)))))) | (((with_reducible show wpAny _ _ (call (Value.ref 74) _) _ _ _); k_dflt (first | ((refine Sp.use (ack_sp _ _) (by k_asm) (by k_asm) (by k_asm) (by k_asm) (by k_asm) rfl rfl rfl rfl (nb rfl) (nb rfl) (by ktr_rel) ?znd ?_; (case znd => k_allIn);  k_whole); intro v9 nl9 h9 tk9 P9; obtain ⟨ac9, ad9, oA9, rfl, hA9, rfl⟩ := P9; intro F9 N9 ND9; dsimp only [List.cons_append, List.nil_append] at N9 ND9; (try k_sweep); (try dsimp only); (have nd_td_ac9 := nnl nd_td_tc (c := ac9) ND9 (by ktr_rel)); (have nd_td_ad9 := nnl nd_td_tc (c := ad9) ND9 (by ktr_rel)))))) | (((with_reducible show wpAny _ _ (call (Value.ref 158) _) _ _ _); k_dflt (first | ((refine Sp.use (cong_sp _ _ _ _ _ _ _) (by k_asm) (by k_asm) (by k_asm) (by k_asm) (by k_asm) rfl rfl rfl rfl (nb rfl) (nb rfl) (by ktr_rel) ?znd ?_; (case znd => k_allIn);  k_whole); intro v9 nl9 h9 tk9 P9; obtain ⟨y92, dx92, rfl, rfl⟩ := P9; intro F9 N9 ND9; dsimp only [List.cons_append, List.nil_append] at N9 ND9; (try k_sweep); (try dsimp only); (have nd_td_y92 := nnl nd_td_tc (c := y92) ND9 (by ktr_rel)))))) | (((with_reducible show wpAny _ _ (call (Value.ref 652) _) _ _ _); k_dflt (first | ((refine Sp.use (sender_sp _ _ _ _ _ _ _ _) (by k_asm) (by k_asm) (by k_asm) (by k_asm) (by k_asm) rfl rfl rfl rfl (nb rfl) (nb rfl) (by ktr_rel) ?znd ?_; (case znd => k_allIn);  k_whole); intro v9 nl9 h9 tk9 P9; obtain ⟨y91, dx91, rfl, rfl⟩ := P9; intro F9 N9 ND9; dsimp only [List.cons_append, List.nil_append] at N9 ND9; (try k_sweep); (try dsimp only); (have nd_td_y91 := nnl nd_td_tc (c := y91) ND9 (by ktr_rel))))))) | walk1 | (dsimp only; walk1) | (leave1; (try dsimp only)) | fail "no step"))
  all_goals (try dsimp only)
  all_goals (try k_unfold)
  all_goals (try dsimp only)
  all_goals (try k_unfold)
  all_goals (try dsimp only)
  all_goals (try k_unfold)
  all_goals (try dsimp only)
  all_goals (try (dsimp only))
  all_goals (with_reducible rename Fr _ _ _ _ => hf)
  all_goals (with_reducible rename News _ _ _ _ => hh)
  all_goals (refine ret2 _ _ _ _ _ hf (news_pick hh (by ktr_rel)) ⟨rfl, _, _, ac9, ad9, wh9, wd9, sl9, s29, s129, lt9, en9, y91, y92, _, _, _, _, _, _, _, _, _, _, rfl, (TcD.of rfl), hA9, ⟨hw1, hw2, hw3, hw4, hw5, hw6, hw7⟩, rfl⟩ ?_)
  all_goals k_allIn
theorem tcb_sp (w : World) (lm ld lo re : Addr) (oM : Obj) (ring mss room f0 l0 m0 iss : Int) (ti : Tok) (hM : LimD w ring mss room f0 l0 m0 oM) (h1 : 1 ≤ mss) (h2 : mss ≤ 66000) :
    Sp w 735 3690 847 [.ref lm, .ref lo, .ref re, .int iss ti] [(lm, instObj 804 ld), (ld, oM)] (P_tcb_sp w lm ld lo re oM) :=
  Sp.cls (by k_is) (by k_is) (by k_is) (by decide) (by decide) fun x dx _ _ => tcinit_sp w x dx lm ld lo re oM ring mss room f0 l0 m0 iss ti hM h1 h2
end Mine
end PartS3
section PartTp
open PySem PySem.W PySem.Calls PyProof.Rows
set_option Elab.async false
set_option maxRecDepth 100000
set_option maxHeartbeats 400000
namespace Mine
/-- the call from the top: the whole heap stays -/
theorem TopEnter {w : World} {f : Addr} {vs : List Value} {s : Shared} {R : Result → Shared → Prop} {mean : ExcName → Option Value} {mg mb : Str → Option Value}
    {name qual : Str} {params : Arguments} {body : List Stmt} {scope : Scope} {dV kV doc pm cdv ct oc : Value} {an od : Option Addr} {osl : Array (Option Value)} {binds : List (Str × Value)}
    (ho : (K w.params).lookup f = some ⟨oc, od, .func (fnOf name qual params body scope dV kV doc pm an cdv ct), osl⟩) (hcd : codeIn (K w.params) cdv qual = true)
    (hbind : ∀ s : Shared, (K w.params).In s.heap → BindsTo s (fnOf name qual params body scope dV kV doc pm an cdv ct) ⟨vs, []⟩ binds) (hloc : ∀ y ∈ binds, scope.names.lookup y.1 = some .local)
    (X : (K w.params).In s.heap) (T : Top qv (looseW qv loose) mean mg mb s.heap)
    (h : ∀ (L' : Addr) (h₁ : Heap) (Q E : Value → Shared → Prop), (Q = fun v s' => R (.ok (.ret v)) s') → Below callerA s.heap [] s.heap → Fr s.heap L' h₁ (fun y => binds.reverse.lookup y) →
      wpG (model pp w) (callerA.deeper (envOf qual scope L' f cdv)) (execs body (envOf qual scope L' f cdv)) (fun fl s' => Q (match fl with | .ret v => v | _ => .none) s')
        (fun e s' => wpAny (model pp w) (callerA.deeper (envOf qual scope L' f cdv)) (leaving (envOf qual scope L' f cdv) e) (fun _ s'' => E e s'') (fun e' s'' => E e' s'') s')
        { s with heap := h₁, toks := s.toks + binds.length })
    (hco : scope.isCoroutine = false := by rfl) (hgen : scope.isGenerator = false := by rfl) (hk : scope.kind = .function := by rfl) (hcell : ∀ x ∈ scope.names, x.2 ≠ .cell := by decide) :
    codeG (model pp w) callerA (.call (.ref f) ⟨vs, []⟩) R s := by
  refine codeG_call_def (fd := fnOf name qual params body scope dV kV doc pm an cdv ct) (body := body) (binds := binds) (by decide +kernel) (X _ _ ho) rfl T.nolimit (codeRec_of X hcd) rfl (hbind s X) hcell hloc (fun h₁ hns hk₁ => ?_) hco hgen hk
  exact wpG_mono (h s.heap.objs.size h₁ (fun v s' => R (.ok (.ret v)) s') (fun e s' => R (.error e) s') rfl (below_caller _) ⟨hns, hk₁, Nat.le_refl _⟩) (fun _ _ y => y) fun _ _ y => y
/-- the ways of _law_pool meet in a list of two ints -/
inductive JPool (h₀ : Heap) (L : Addr) (s : Shared) (m : Str → Option Value) (news : List (Addr × Obj)) (v : Value) (s' : Shared) : Prop where
  | mk (D : _) (a : _) (ta : _) (b : _) (tb : _) (n : _) (h' : _) (tk : _) (hh1 : v = .ref D) (hh2 : 0 ≤ a) (hh3 : 0 ≤ b) (hh4 : b < 2147483647) (hh5 : s' = { s with heap := h', toks := tk }) (hh6 : Fr h₀ L h' m) (hh7 : News h₀ L h' ((D, srcO a ta b tb n) :: news)) (hh8 : (∀ p ∈ news, p.1 ≠ D)) : JPool h₀ L s m news v s'
theorem JPool.intro {h₀ : Heap} {L : Addr} {s : Shared} {m : Str → Option Value} {news all rest : List (Addr × Obj)} {D : Addr} {a b : Int} {ta tb : Tok} {n : Nat} {h' : Heap} {tk : Nat} (F : Fr h₀ L h' m) (N : News h₀ L h' all) (P : Pick ((D, srcO a ta b tb n) :: news) all rest) (h1 : 0 ≤ a) (h2 : 0 ≤ b) (h3 : b < 2147483647) (nd : ∀ p ∈ news, p.1 ≠ D) :
    JPool h₀ L s m news (.ref D) { s with heap := h', toks := tk } := ⟨D, a, ta, b, tb, n, h', tk, rfl, h1, h2, h3, rfl, F, fun p hp => N p (P.perm.mem_iff.mp (List.mem_append_left _ hp)), nd⟩
theorem join_pool {M : Model} {A : Around} {E : Value → Shared → Prop} {s : Shared} {h₀ : Heap} {L : Addr} {m : Str → Option Value} {news : List (Addr × Obj)} {T : Sem Value} {Q : Value → Shared → Prop} (F : Fr h₀ L s.heap m) (N : News h₀ L s.heap news)
    (h : wpAny M A T (JPool h₀ L s m news) E s) (k : ∀ D a ta b tb n h' tk, 0 ≤ a → 0 ≤ b → b < 2147483647 → Fr h₀ L h' m → News h₀ L h' ((D, srcO a ta b tb n) :: news) → (∀ p ∈ news, p.1 ≠ D) → Q (.ref D) { s with heap := h', toks := tk }) : wpAny M A T Q E s :=
  wpAny_mono h (fun v s' ⟨D, a, ta, b, tb, n, h', tk, e, h1, h2, h3, e', F', N', nd⟩ => by subst e; subst e'; exact k D a ta b tb n h' tk h1 h2 h3 F' N' nd) fun _ _ e => e
end Mine
end PartTp
section SecLMN
open PySem PySem.W PySem.Calls PyProof.Rows Mine
set_option hygiene false in
local macro_rules | `(tactic| k_ne) => `(tactic| (refine neN ?_; (try dsimp only); first | exact nd_ne ND9 (by ktr_rel) | exact NN.ne (by with_reducible assumption) | exact NN.ne' (by with_reducible assumption) | exact Nat.ne_of_lt (by with_reducible assumption) | exact Nat.ne_of_gt (by with_reducible assumption) | ((repeat (with_reducible rename _ ∧ _ => hl9; cases hl9)); first | exact Nat.ne_of_lt (by with_reducible assumption) | exact Nat.ne_of_gt (by with_reducible assumption)) | omega))
set_option hygiene false in
local macro_rules | `(tactic| walk_at "getAttr ref") => `(tactic| (k_here; k_dflt (refine' get_own ?k1 ?k2 ?k3 ?k4 ?k5 ?k6 ?k7 ?k8 ?k9 ?_; (case k1 => k_asm); (case k2 => k_asm); (case k3 => k_inst); (case k4 => k_is); (case k5 => k_is); (case k6 => k_is); (case k7 => k_is); (case k8 => k_get); (case k9 => k_handed); k_whole)))
set_option hygiene false in
local macro_rules | `(tactic| walk_at "subscriptTail Name") => `(tactic| (k_here; (with_reducible refine gd12 ?_); k_dflt (refine kda_item (knd := PySem.strKind _ _) (by with_reducible assumption) (by k_mem) (by with_reducible assumption) (strKind_is _ _ _ _) (by rfl) ?_)))
theorem Mine.flush38 : True := by first | (w_top off; walk1) | trivial
section SecMM
open PySem PySem.W PySem.Calls PyProof.Rows Mine
set_option hygiene false in
local macro_rules | `(tactic| walk_at "JInt") => `(tactic| (k_dflt (exact JInt.intro (by first | exact (hf1 (by with_reducible assumption)).trans (Int.add_zero _).symm | exact hf2 (by with_reducible assumption)))))
set_option hygiene false in
local macro_rules | `(tactic| walk_at "JBytes") => `(tactic| (k_dflt (exact JBytes.intro (by with_reducible assumption) (by with_reducible assumption) (by ktr_rel) (by first | exact ((p91 (hf3 (by with_reducible assumption)).2).trans (by rw [fd256, fm256])).symm | exact (p92 (hf4 (by with_reducible assumption)).2).symm | exact ((p91 (hf3 (by with_reducible assumption)).1).trans (by rw [fd256, fm256])).symm | exact (p92 (hf4 (by with_reducible assumption)).1).symm))))
set_option hygiene false in
local macro_rules | `(tactic| walk_at "call type:bytes") => `(tactic| (k_here; (with_reducible refine gd1 ?_); k_dflt (((refine bytes_list (by k_asm) (by k_asm) (by k_mem) rfl (by repeat constructor) (by simp only [List.forall_mem_cons, List.not_mem_nil, false_implies, implies_true, and_true, fd256, fm256]; exact mss_fit (by assumption)) (by simp) ?_); intro h' _ _ F' N'))))
set_option hygiene false in
local macro_rules | `(tactic| walk_at "compareOp NotEq ref ref") => `(tactic| (k_here; (with_reducible refine gd9 ?_); k_dflt (first | ((refine ne_valsD (by k_asm) (by ktr_rel) (by ktr_rel) (by (repeat' (first | exact EqVs.nil | refine EqVs.cons (by first | exact EqV.int (by first | with_reducible rfl | (rw [edge_yes p93 (by with_reducible assumption)]) | (rw [edge_no p94 (by with_reducible assumption)]) | ((repeat (with_reducible rename _ ∧ _ => hl9; clear hl9)); first | rfl | omega)) | exact EqV.bytes (by first | rfl | exact (p91 (hf3 (by with_reducible assumption)).2).trans (by rw [fd256, fm256]) | exact p92 (hf4 (by with_reducible assumption)).2 | exact (p91 (hf3 (by with_reducible assumption)).1).trans (by rw [fd256, fm256]) | exact p92 (hf4 (by with_reducible assumption)).1)) ?_))) (by units_room) ?_); (repeat (with_reducible rename _ ∧ _ => hl9; clear hl9)); intro N'))))
set_option hygiene false in
local macro_rules | `(tactic| walk_at "compareOp Eq ref ref") => `(tactic| (k_here; (with_reducible refine gd8 ?_); k_dflt (first | (refine eq_vals (by k_asm) (by k_mem) (by k_mem) (by (repeat' (first | exact EqVs.nil | refine EqVs.cons (by first | exact EqV.int (by first | with_reducible rfl | (rw [edge_yes p93 (by with_reducible assumption)]) | (rw [edge_no p94 (by with_reducible assumption)]) | ((repeat (with_reducible rename _ ∧ _ => hl9; clear hl9)); first | rfl | omega)) | exact EqV.bytes (by first | rfl | exact (p91 (hf3 (by with_reducible assumption)).2).trans (by rw [fd256, fm256]) | exact p92 (hf4 (by with_reducible assumption)).2 | exact (p91 (hf3 (by with_reducible assumption)).1).trans (by rw [fd256, fm256]) | exact p92 (hf4 (by with_reducible assumption)).1)) ?_))) (by units_room) ?_))))
theorem Mine.flush39 : True := by first | (w_top off; walk1) | trivial
section PartM2
theorem Mine.flush40 : True := by first | (w_top off; walk1) | trivial
open PySem PySem.W PySem.Calls PyProof.Rows
set_option Elab.async false
set_option maxRecDepth 100000
set_option maxHeartbeats 4000000
set_option rowWalk.seconds 0
set_option pp.maxSteps 6000
namespace Mine

inductive BkD (w : World) (ring : Int) (most : Int) (room : Int) (nx : Value) (held : Int) (edge : Int) (o : Obj) : Prop where
  | mk (t1 : _) (t2 : _) (t3 : _) (t4 : _) (t5 : _) (hh1 : o.IsDictOf (PySem.strKind pp w) [("ring", .int ring t1), ("most", .int most t2), ("room", .int room t3), ("next", nx), ("held", .int held t4), ("edge", .int edge t5)]) : BkD w ring most room nx held edge o
def FlOk (fl : Int) : Prop := fl = 0 ∨ fl = 16 ∨ fl = 24 ∨ fl = 2 ∨ fl = 18 ∨ fl = 17 ∨ fl = 4
theorem fl_facts {fl : Int} (h : FlOk fl) : (Int.fmod (Int.fdiv fl 16) 2 = 1 → Builtin.bitOr fl 16 = fl) ∧ (Int.fmod (Int.fdiv fl 16) 2 ≠ 1 → Builtin.bitOr fl 16 = fl + 16) ∧
    (Int.fmod (Int.fdiv fl 2) 2 = 1 → Builtin.bitAnd (Builtin.bitOr fl 16) 2 ≠ 0 ∧ Builtin.bitAnd fl 2 ≠ 0) ∧ (Int.fmod (Int.fdiv fl 2) 2 ≠ 1 → Builtin.bitAnd (Builtin.bitOr fl 16) 2 = 0 ∧ Builtin.bitAnd fl 2 = 0) ∧ 0 ≤ fl ∧ fl < 256 := by
  rcases h with rfl | rfl | rfl | rfl | rfl | rfl | rfl <;> decide +kernel
theorem WIn.whe (w : World) (x d sl s2 s12 lt en a3 a1 : Addr) (oW oS o2 o12 oL oE oA3 oA1 : Obj) (h : WIn w x d sl s2 s12 lt en a3 a1 oW oS o2 o12 oL oE oA3 oA1) : WheD w sl lt en oW := by rcases h with h | h | h <;> exact h.1
theorem WMid.whe (w : World) (x d sl s2 s12 lt en a3 a1 : Addr) (oW oS o2 o12 oL oE oA3 oA1 : Obj) (h : WMid w x d sl s2 s12 lt en a3 a1 oW oS o2 o12 oL oE oA3 oA1) : WheD w sl lt en oW := by rcases h with h | h <;> exact h.1

theorem fd256 (n : Int) : Int.fdiv n 256 = n / 256 := Int.fdiv_eq_ediv_of_nonneg n (by decide)
theorem fm256 (n : Int) : Int.fmod n 256 = n % 256 := Int.fmod_eq_emod_of_nonneg n (by decide)
set_option hygiene false in
local macro_rules | `(tactic| walk_at "eval IfExp") => `(tactic| (k_here; (with_reducible refine gd13 ?_); k_dflt ((refine join_fl hf6 (IfExp_ ?_) ?ifk; (case' ifk => (intro x9 t9 tk9 hx9; (try dsimp only)))))))
set_option hygiene false in
local macro_rules | `(tactic| walk_at "eval IfExp") => `(tactic| (k_here; (with_reducible refine gd14 ?_); k_dflt ((refine join_bytes op9 (by with_reducible assumption) (by with_reducible assumption) (IfExp_ ?_) ?ifk; (case' ifk => (intro t9 h9 tk9 F9 N9; (try k_sweep); (try dsimp only)))))))
inductive P_segN_sp (w : World) (tc : Addr) (td : Addr) (lm : Addr) (ld : Addr) (lo : Addr) (re : Addr) (ac : Addr) (ad : Addr) (bk : Addr) (x : Addr) (d : Addr) (sl : Addr) (s2 : Addr) (s12 : Addr) (lt : Addr) (en : Addr) (oT : Obj) (oM : Obj) (oB : Obj) (oS : Obj) (u1 : Tok) (u2 : Tok) (u3 : Tok) (u4 : Tok) (m1 : Nat) (m2 : Nat) (v : Value) (nl : List (Addr × Obj)) : Prop where
  | mk (oA' : _) (a3 : _) (a1 : _) (oW : _) (o2 : _) (o12 : _) (oL : _) (oE : _) (oA3 : _) (oA1 : _) (hh1 : v = .bool true) (hh2 : AckD w true oA') (hh3 : WIn w x d sl s2 s12 lt en a3 a1 oW oS o2 o12 oL oE oA3 oA1) (hh4 : nl = [(tc, instObj 847 td), (td, oT), (lm, instObj 804 ld), (ld, oM), (lo, tupO [.int 1 u1, .int 1000 u2] m1), (re, tupO [.int 2 u3, .int 80 u4] m2), (ac, instObj 74 ad), (ad, oA'), (x, instObj 783 d), (d, oW), (sl, oS), (s2, o2), (s12, o12), (lt, oL), (en, oE), (a3, oA3), (a1, oA1), (bk, oB)]) : P_segN_sp w tc td lm ld lo re ac ad bk x d sl s2 s12 lt en oT oM oB oS u1 u2 u3 u4 m1 m2 v nl
theorem segN_sp (w : World) (tc td lm ld lo re ac ad bk x d sl s2 s12 lt en a3 a1 : Addr) (oT oM oA oB oW oS o2 o12 oL oE oA3 oA1 : Obj) (u1 u2 u3 u4 tf ts to : Tok) (m1 m2 : Nat) (ring mss room f0 l0 m0 fl sq : Int) (oc : Array UInt8) (r : Bool)
    (hT : TcD w lm lo re ac x .none oT) (hM : LimD w ring mss room f0 l0 m0 oM) (hA : AckD w r oA) (hW : WIn w x d sl s2 s12 lt en a3 a1 oW oS o2 o12 oL oE oA3 oA1) (hB : BkD w ring mss room .none 0 0 oB) (hb : @Ne Nat bk 1)
    (h1 : 1 ≤ mss) (h2 : mss ≤ 66000) (h3 : 8 ≤ room) (h4 : room ≤ 70000) (hfl : FlOk fl) :
    Sp w 725 3650 1123 [.ref tc, .ref bk, .int fl tf, .int sq ts, .bytes oc to] [(tc, instObj 847 td), (td, oT), (lm, instObj 804 ld), (ld, oM), (lo, tupO [.int 1 u1, .int 1000 u2] m1), (re, tupO [.int 2 u3, .int 80 u4] m2), (ac, instObj 74 ad), (ad, oA), (x, instObj 783 d), (d, oW), (sl, oS), (s2, o2), (s12, o12), (lt, oL), (en, oE), (a3, oA3), (a1, oA1), (bk, oB)] (P_segN_sp w tc td lm ld lo re ac ad bk x d sl s2 s12 lt en oT oM oB oS u1 u2 u3 u4 m1 m2) := by
  obtain ⟨k0Z, rfl⟩ := hT
  have hA' := hA
  obtain ⟨x1, x2, x3, x4, x5, x6, x7, x8, rfl, -⟩ := hA'
  obtain ⟨uw1Z, rfl⟩ := hW.whe
  obtain ⟨tb1, tb2, tb3, tb4, tb5, hB⟩ := hB
  have lom : (bk == sysModules) = false := by simpa [sysModules] using hb
  obtain ⟨hf1, hf2, hf3, hf4, hf5, hf6⟩ := fl_facts hfl
  refine Sp.enter (binds := [("tcb", .ref tc), ("book", .ref bk), ("flags", .int fl tf), ("seq", .int sq ts), ("octets", .bytes oc to)]) (by k_is) (by k_is) (by decide) (fun s X => BindsTo.of_eq rfl) (locs rfl) ?_
  intro env outer base g mean mg mb L' h₁ s Q E B X T F N ND ret
  revert hM hb h1 h2 h3 h4 hfl hA hW hB lom hf1 hf2 hf3 hf4 hf5 hf6 B X T F N ND ret
  revert w tc td lm ld lo re ac ad bk x d sl s2 s12 lt en a3 a1 oM oB oS o2 o12 oL oE oA3 oA1 u1 u2 u3 u4 tf ts to m1 m2 ring mss room f0 l0 m0 fl sq oc r k0Z x1 x2 x3 x4 x5 x6 x7 x8 uw1Z tb1 tb2 tb3 tb4 tb5 env outer base g mean mg mb L' h₁ s Q E
  (iterate 9 (refine dum ?_))
  refine eps83 (by repeat' (first | refine @instNonemptyProd _ _ ?_ ?_ | infer_instance | exact neW | exact neS | exact neWhZ | exact neTcZ)) ?_
  intro hM hb h1 h2 h3 h4 hfl hA hW hB lom hf1 hf2 hf3 hf4 hf5 hf6 B X T F N ND ret
  have ND9 := ND
  have ret2 := fun v nl h tk m a b c d => ret v nl h tk m c a b d
  (repeat' (first | (k_unfold; (try dsimp only)) | (k_end; wrow_close) | ((with_reducible show wpAny _ _ (eval (Expr.Name _ _) _) _ _ _); first | ((k_here; (with_reducible first | (refine nmL (by first | exact nf1123.1 | exact nf1123.2.1 | exact nf1123.2.2.1 | exact nf1123.2.2.2.1 | exact nf1123.2.2.2.2.1 | exact nf1123.2.2.2.2.2.1 | exact nf1123.2.2.2.2.2.2.1 | exact nf1123.2.2.2.2.2.2.2.1 | exact nf1123.2.2.2.2.2.2.2.2.1 | exact nf1123.2.2.2.2.2.2.2.2.2.1 | exact nf1123.2.2.2.2.2.2.2.2.2.2.1 | exact nf1123.2.2.2.2.2.2.2.2.2.2.2.1 | exact nf1123.2.2.2.2.2.2.2.2.2.2.2.2.1) (by k_asm) (by k_dflt (exact Eq.refl (some _))) ?_) | (refine nmB nf1123.2.2.2.2.2.2.2.2.2.2.2.2.2.1 (bk_max _) (by k_asm) (by k_asm) (by k_asm) ?_) | (refine nmB nf1123.2.2.2.2.2.2.2.2.2.2.2.2.2.2.1 (bk_min _) (by k_asm) (by k_asm) (by k_asm) ?_) | (refine nmB nf1123.2.2.2.2.2.2.2.2.2.2.2.2.2.2.2.1 (bk_bytes _) (by k_asm) (by k_asm) (by k_asm) ?_))))) | ((with_reducible show wpAny _ _ (call (Value.ref _) _) _ _ _); first | (((with_reducible show wpAny _ _ (call (Value.ref 844) _) _ _ _); k_dflt (first | ((refine Sp.useP (by k_asm) (by k_asm) (by k_asm) (by k_asm) (by k_asm) rfl rfl rfl rfl (by ktr_rel) ?znd (makeN_sp _ _ _ _ _ _ _ _ _ _ _ _ _ _ _ _ _ _ _ _ _ _ _ _ _ _ _ _ _ (by exact (TcD.of rfl)) (by assumption) ?a1 ?a2 ?a3 ?a4) (nb rfl) (nb rfl) ?_; (case znd => k_allIn); (case a1 => kaf_pre); (case a2 => kaf_pre); (case a3 => kaf_pre); (case a4 => kaf_pre); k_whole); intro v9 nl9 h9 tk9 P9; obtain ⟨sg9, sd9, oG9, op9, rfl, hG9, p91, p92, rfl⟩ := P9; intro F9 N9 ND9; dsimp only [List.cons_append, List.nil_append] at N9 ND9; (try k_sweep); (try dsimp only); (obtain ⟨ug0Z, rfl⟩ := hG9))))) | (((with_reducible show wpAny _ _ (call (Value.ref 761) [_, Value.int 3 _]) _ _ _); k_dflt (first | ((refine Sp.use (time3TO _ _ _ _ _ _ _ _ _ _ _ _ _ _ _ _ _ _ (by assumption) _) (by k_asm) (by k_asm) (by k_asm) (by k_asm) (by k_asm) rfl rfl rfl rfl (nb rfl) (nb rfl) (by ktr_rel) ?znd ?_; (case znd => k_allIn);  k_whole); intro v9 nl9 h9 tk9 P9; obtain ⟨⟨t9, rfl⟩, rfl⟩ := P9; intro F9 N9 ND9; dsimp only [List.cons_append, List.nil_append] at N9 ND9; (try k_sweep); (try dsimp only))))) | (((with_reducible show wpAny _ _ (call (Value.ref 761) [_, Value.int 1 _]) _ _ _); k_dflt (first | ((refine Sp.use (time1TO _ _ _ _ _ _ _ _ _ _ _ _ _ _ _ _ _ _ (by assumption) _) (by k_asm) (by k_asm) (by k_asm) (by k_asm) (by k_asm) rfl rfl rfl rfl (nb rfl) (nb rfl) (by ktr_rel) ?znd ?_; (case znd => k_allIn);  k_whole); intro v9 nl9 h9 tk9 P9; obtain ⟨⟨t9, rfl⟩, rfl⟩ := P9; intro F9 N9 ND9; dsimp only [List.cons_append, List.nil_append] at N9 ND9; (try k_sweep); (try dsimp only))))) | (((with_reducible show wpAny _ _ (call (Value.ref 740) [_, Value.int 3 _, _]) _ _ _); k_dflt (first | ((refine Sp.use (put3_sp _ _ _ _ _ _ _ _ _ _ _ _ _ _ _ _ _ _ (by assumption) _ _) (by k_asm) (by k_asm) (by k_asm) (by k_asm) (by k_asm) rfl rfl rfl rfl (nb rfl) (nb rfl) (by ktr_rel) ?znd ?_; (case znd => k_allIn);  k_whole); intro v9 nl9 h9 tk9 P9; obtain ⟨a39, a19, oW9, o29, o129, oL9, oE9, oA39, oA19, hW9, rfl⟩ := P9; intro F9 N9 ND9; dsimp only [List.cons_append, List.nil_append] at N9 ND9; (try k_sweep); (try dsimp only); (obtain ⟨uw1Z, rfl⟩ := hW9.whe))))) | (((with_reducible show wpAny _ _ (call (Value.ref 740) [_, Value.int 1 _, _]) _ _ _); k_dflt (first | ((refine Sp.use (put1_sp _ _ _ _ _ _ _ _ _ _ _ _ _ _ _ _ _ _ (by assumption) _ _) (by k_asm) (by k_asm) (by k_asm) (by k_asm) (by k_asm) rfl rfl rfl rfl (nb rfl) (nb rfl) (by ktr_rel) ?znd ?_; (case znd => k_allIn);  k_whole); intro v9 nl9 h9 tk9 P9; obtain ⟨a39, a19, oW9, o29, o129, oL9, oE9, oA39, oA19, hW9, rfl⟩ := P9; intro F9 N9 ND9; dsimp only [List.cons_append, List.nil_append] at N9 ND9; (try k_sweep); (try dsimp only); (obtain ⟨uw1Z, rfl⟩ := hW9.1))))) | (((with_reducible show wpAny _ _ (call (Value.ref 57) _) _ _ _); k_dflt (first | ((refine Sp.useP (by k_asm) (by k_asm) (by k_asm) (by k_asm) (by k_asm) rfl rfl rfl rfl (by ktr_rel) ?znd (isdue_sp _ _ _ _ _ _ (by assumption)) (nb rfl) (nb rfl) ?_; (case znd => k_allIn);  k_whole); intro v9 nl9 h9 tk9 P9; obtain ⟨rfl, rfl⟩ := P9; intro F9 N9 ND9; dsimp only [List.cons_append, List.nil_append] at N9 ND9; (try k_sweep); (try dsimp only))))) | (((with_reducible show wpAny _ _ (call (Value.ref 43) _) _ _ _); k_dflt (first | ((refine Sp.useP (by k_asm) (by k_asm) (by k_asm) (by k_asm) (by k_asm) rfl rfl rfl rfl (by ktr_rel) ?znd (onoct_sp _ _ _ _ _ _ (by assumption)) (nb rfl) (nb rfl) ?_; (case znd => k_allIn);  k_whole); intro v9 nl9 h9 tk9 P9; obtain ⟨oA9, hA9, rfl⟩ := P9; intro F9 N9 ND9; dsimp only [List.cons_append, List.nil_append] at N9 ND9; (try k_sweep); (try dsimp only); (have hA99 := hA9); (obtain ⟨ua1, ua2, ua3, ua4, ua5, ua6, ua7, ua8, rfl, -⟩ := hA99)))))) | walk1 | (dsimp only; walk1) | (leave1; (try dsimp only)) | fail "no step"))
  all_goals (try dsimp only)
  all_goals (try k_unfold)
  all_goals (try dsimp only)
  all_goals (try k_unfold)
  all_goals (try dsimp only)
  all_goals (try k_unfold)
  all_goals (try dsimp only)
  all_goals (try (dsimp only))
  all_goals (with_reducible rename Fr _ _ _ _ => hf)
  all_goals (with_reducible rename News _ _ _ _ => hh)
  all_goals (refine ret2 _ _ _ _ _ hf (news_pick hh (by ktr_rel)) ⟨_, _, _, _, _, _, _, _, _, _, rfl, hA9, .inr (.inl hW9), rfl⟩ ?_)
  all_goals k_allIn
end Mine
end PartM2
section PartM3
theorem Mine.flush41 : True := by first | (w_top off; walk1) | trivial
open PySem PySem.W PySem.Calls PyProof.Rows
set_option Elab.async false
set_option maxRecDepth 100000
set_option maxHeartbeats 4000000
set_option rowWalk.seconds 0
set_option pp.maxSteps 6000
namespace Mine

theorem edge_fin {p room bs e : Int} (h1 : e ≤ p + (room - bs)) (h0 : p ≤ e) : p ≤ p + room - bs ∧ p + room - bs ≤ p + (room - bs) := ⟨by omega, by omega⟩
set_option hygiene false in
local macro_rules | `(tactic| walk_at "eval IfExp") => `(tactic| (k_here; (with_reducible refine gd13 ?_); k_dflt ((refine join_fl hf6 (IfExp_ ?_) ?_; rotate_left 1; (intro x9 t9 tk9 hx9); (try dsimp only); rotate_right 1))))
set_option hygiene false in
local macro_rules | `(tactic| walk_at "eval IfExp") => `(tactic| (k_here; (with_reducible refine gd14 ?_); k_dflt ((refine join_bytes op9 (by with_reducible assumption) (by with_reducible assumption) (IfExp_ ?_) ?_; rotate_left 1; (intro t9 h9 tk9 F9 N9); (try k_sweep); (try dsimp only); rotate_right 1))))
set_option hygiene false in
local macro_rules | `(tactic| walk_at "setItem ref str int") => `(tactic| (k_here; k_dflt (((refine kda_setN (knd := PySem.strKind _ _) ND9 (by with_reducible assumption) (by with_reducible assumption) (by ktr_rel) (by ktr_rel) (by with_reducible assumption) (strKind_is _ _ _ _) (by kob_size) ?_); intro h' o' F' N' hd'; (try kob_lit); (try k_sweep); (try dsimp only at N')))))
inductive P_segR_sp (w : World) (tc : Addr) (td : Addr) (lm : Addr) (ld : Addr) (lo : Addr) (re : Addr) (rc : Addr) (rd : Addr) (S : Addr) (am : Addr) (ac : Addr) (ad : Addr) (bk : Addr) (x : Addr) (d : Addr) (sl : Addr) (s2 : Addr) (s12 : Addr) (lt : Addr) (en : Addr) (oT : Obj) (oM : Obj) (oS : Obj) (u1 : Tok) (u2 : Tok) (u3 : Tok) (u4 : Tok) (tn : Tok) (m1 : Nat) (m2 : Nat) (b : Array UInt8) (ring : Int) (room : Int) (mss : Int) (p : Int) (v : Value) (nl : List (Addr × Obj)) : Prop where
  | mk (e' : _) (oR' : _) (oA' : _) (oB' : _) (a3 : _) (a1 : _) (oW : _) (o2 : _) (o12 : _) (oL : _) (oE : _) (oA3 : _) (oA1 : _) (hh1 : v = .bool true) (hh2 : p ≤ e') (hh3 : e' ≤ p + (room - b.size)) (hh4 : RcD w ring room mss p e' S am oR') (hh5 : AckD w false oA') (hh6 : WIn w x d sl s2 s12 lt en a3 a1 oW oS o2 o12 oL oE oA3 oA1) (hh7 : BkD w ring mss room (.int p tn) b.size e' oB') (hh8 : nl = [(tc, instObj 847 td), (td, oT), (lm, instObj 804 ld), (ld, oM), (lo, tupO [.int 1 u1, .int 1000 u2] m1), (re, tupO [.int 2 u3, .int 80 u4] m2), (rc, instObj 1077 rd), (rd, oR'), (S, baO b), (ac, instObj 74 ad), (ad, oA'), (x, instObj 783 d), (d, oW), (sl, oS), (s2, o2), (s12, o12), (lt, oL), (en, oE), (a3, oA3), (a1, oA1), (bk, oB')]) : P_segR_sp w tc td lm ld lo re rc rd S am ac ad bk x d sl s2 s12 lt en oT oM oS u1 u2 u3 u4 tn m1 m2 b ring room mss p v nl
theorem segR_sp (w : World) (tc td lm ld lo re rc rd S am ac ad bk x d sl s2 s12 lt en a3 a1 : Addr) (oT oM oR oA oB oW oS o2 o12 oL oE oA3 oA1 : Obj) (u1 u2 u3 u4 tf ts to tn : Tok) (m1 m2 : Nat) (b : Array UInt8) (ring room mss p e f0 l0 m0 fl sq : Int) (oc : Array UInt8) (r : Bool)
    (hA : AckD w r oA) (hW : WIn w x d sl s2 s12 lt en a3 a1 oW oS o2 o12 oL oE oA3 oA1) (hT : TcD w lm lo re ac x (.ref rc) oT) (hM : LimD w ring mss room f0 l0 m0 oM) (hR : RcD w ring room mss p e S am oR) (hr : ring = 256 ∨ ring = 4294967296) (h0 : p ≤ e) (h1 : e ≤ p + (room - b.size)) (h2 : 2 * room < ring) (h3 : 8 ≤ room) (h3' : room ≤ 70000) (h4 : 1 ≤ mss) (h5 : mss ≤ 66000) (hB : BkD w ring mss room (.int p tn) b.size e oB) (hb : @Ne Nat bk 1) (hfl : FlOk fl) :
    Sp w 725 3650 1123 [.ref tc, .ref bk, .int fl tf, .int sq ts, .bytes oc to] [(tc, instObj 847 td), (td, oT), (lm, instObj 804 ld), (ld, oM), (lo, tupO [.int 1 u1, .int 1000 u2] m1), (re, tupO [.int 2 u3, .int 80 u4] m2), (rc, instObj 1077 rd), (rd, oR), (S, baO b), (ac, instObj 74 ad), (ad, oA), (x, instObj 783 d), (d, oW), (sl, oS), (s2, o2), (s12, o12), (lt, oL), (en, oE), (a3, oA3), (a1, oA1), (bk, oB)] (P_segR_sp w tc td lm ld lo re rc rd S am ac ad bk x d sl s2 s12 lt en oT oM oS u1 u2 u3 u4 tn m1 m2 b ring room mss p) := by
  have hT' := hT
  obtain ⟨k0Z, rfl⟩ := hT'
  have hA' := hA
  obtain ⟨x1, x2, x3, x4, x5, x6, x7, x8, rfl, -⟩ := hA'
  obtain ⟨uw1Z, rfl⟩ := hW.whe
  obtain ⟨tb1, tb2, tb3, tb4, tb5, hB⟩ := hB
  have lom : (bk == sysModules) = false := by simpa [sysModules] using hb
  have r0 : ring ≠ 0 := by omega
  obtain ⟨hf1, hf2, hf3, hf4, hf5, hf6⟩ := fl_facts hfl
  refine Sp.enter (binds := [("tcb", .ref tc), ("book", .ref bk), ("flags", .int fl tf), ("seq", .int sq ts), ("octets", .bytes oc to)]) (by k_is) (by k_is) (by decide) (fun s X => BindsTo.of_eq rfl) (locs rfl) ?_
  intro env outer base g mean mg mb L' h₁ s Q E B X T F N ND ret
  revert hM hR hr h0 h1 h2 h3 h3' h4 h5 hb hfl hT hA hW hB lom r0 hf1 hf2 hf3 hf4 hf5 hf6 B X T F N ND ret
  revert w tc td lm ld lo re rc rd S am ac ad bk x d sl s2 s12 lt en a3 a1 oM oR oB oS o2 o12 oL oE oA3 oA1 u1 u2 u3 u4 tf ts to tn m1 m2 b ring room mss p e f0 l0 m0 fl sq oc r k0Z x1 x2 x3 x4 x5 x6 x7 x8 uw1Z tb1 tb2 tb3 tb4 tb5 env outer base g mean mg mb L' h₁ s Q E
  refine eps83 (by repeat' (first | refine @instNonemptyProd _ _ ?_ ?_ | infer_instance | exact neW | exact neS | exact neWhZ | exact neTcZ)) ?_
  intro hM hR hr h0 h1 h2 h3 h3' h4 h5 hb hfl hT hA hW hB lom r0 hf1 hf2 hf3 hf4 hf5 hf6 B X T F N ND ret
  have ND9 := ND
  have ret2 := fun v nl h tk m a b c d => ret v nl h tk m c a b d
  (repeat' (first | (k_unfold; (try dsimp only)) | (k_end; wrow_close) | ((with_reducible show wpAny _ _ (eval (Expr.Name _ _) _) _ _ _); first | ((k_here; (with_reducible first | (refine nmL (by first | exact nf1123.1 | exact nf1123.2.1 | exact nf1123.2.2.1 | exact nf1123.2.2.2.1 | exact nf1123.2.2.2.2.1 | exact nf1123.2.2.2.2.2.1 | exact nf1123.2.2.2.2.2.2.1 | exact nf1123.2.2.2.2.2.2.2.1 | exact nf1123.2.2.2.2.2.2.2.2.1 | exact nf1123.2.2.2.2.2.2.2.2.2.1 | exact nf1123.2.2.2.2.2.2.2.2.2.2.1 | exact nf1123.2.2.2.2.2.2.2.2.2.2.2.1 | exact nf1123.2.2.2.2.2.2.2.2.2.2.2.2.1) (by k_asm) (by k_dflt (exact Eq.refl (some _))) ?_) | (refine nmB nf1123.2.2.2.2.2.2.2.2.2.2.2.2.2.1 (bk_max _) (by k_asm) (by k_asm) (by k_asm) ?_) | (refine nmB nf1123.2.2.2.2.2.2.2.2.2.2.2.2.2.2.1 (bk_min _) (by k_asm) (by k_asm) (by k_asm) ?_) | (refine nmB nf1123.2.2.2.2.2.2.2.2.2.2.2.2.2.2.2.1 (bk_bytes _) (by k_asm) (by k_asm) (by k_asm) ?_))))) | ((with_reducible show wpAny _ _ (call (Value.ref _) _) _ _ _); first | (((with_reducible show wpAny _ _ (call (Value.ref 844) _) _ _ _); k_dflt (first | ((refine Sp.use (makeR_sp _ _ _ _ _ _ _ _ _ _ _ _ _ _ _ _ _ _ _ _ _ _ _ _ _ _ _ _ _ _ _ _ _ _ _ _ _ _ _ _ _ _ _ _ _ _ _ _ _ _ _ _ _ _ _ _ (by with_reducible assumption) (by with_reducible assumption) (by with_reducible assumption) (by with_reducible assumption) (by with_reducible assumption) ?a1 ?a2 ?a3 ?a4 ?a5 ?a6 ?a7 ?a8 ?a9 ?a10) (by k_asm) (by k_asm) (by k_asm) (by k_asm) (by k_asm) rfl rfl rfl rfl (nb rfl) (nb rfl) (by ktr_rel) ?znd ?_; (case znd => k_allIn); (case a1 => kaf_pre); (case a2 => kaf_pre); (case a3 => kaf_pre); (case a4 => kaf_pre); (case a5 => kaf_pre); (case a6 => kaf_pre); (case a7 => kaf_pre); (case a8 => kaf_pre); (case a9 => kaf_pre); (case a10 => kaf_pre); k_whole); intro v9 nl9 h9 tk9 P9; obtain ⟨sg9, sd9, oG9, op9, e9, oR9, oA9, a39, a19, oW9, o29, o129, oL9, oE9, oA39, oA19, rfl, hG9, p91, p92, hR9, p93, p94, hA9, hW9, rfl⟩ := P9; intro F9 N9 ND9; dsimp only [List.cons_append, List.nil_append] at N9 ND9; (try k_sweep); (try dsimp only); (obtain ⟨ug0Z, rfl⟩ := hG9); (have hA99 := hA9); (obtain ⟨ua1, ua2, ua3, ua4, ua5, ua6, ua7, ua8, rfl, -⟩ := hA99); (obtain ⟨uw1Z, rfl⟩ := hW9.1))))) | (((with_reducible show wpAny _ _ (call (Value.ref 761) [_, Value.int 3 _]) _ _ _); k_dflt (first | ((refine Sp.use (time3O _ _ _ _ _ _ _ _ _ _ _ _ _ _ _ _ _ _ (by assumption) _) (by k_asm) (by k_asm) (by k_asm) (by k_asm) (by k_asm) rfl rfl rfl rfl (nb rfl) (nb rfl) (by ktr_rel) ?znd ?_; (case znd => k_allIn);  k_whole); intro v9 nl9 h9 tk9 P9; obtain ⟨rfl, rfl⟩ := P9; intro F9 N9 ND9; dsimp only [List.cons_append, List.nil_append] at N9 ND9; (try k_sweep); (try dsimp only))))) | (((with_reducible show wpAny _ _ (call (Value.ref 761) [_, Value.int 1 _]) _ _ _); k_dflt (first | ((refine Sp.use (time1O _ _ _ _ _ _ _ _ _ _ _ _ _ _ _ _ _ _ (by assumption) _) (by k_asm) (by k_asm) (by k_asm) (by k_asm) (by k_asm) rfl rfl rfl rfl (nb rfl) (nb rfl) (by ktr_rel) ?znd ?_; (case znd => k_allIn);  k_whole); intro v9 nl9 h9 tk9 P9; obtain ⟨⟨t9, rfl⟩, rfl⟩ := P9; intro F9 N9 ND9; dsimp only [List.cons_append, List.nil_append] at N9 ND9; (try k_sweep); (try dsimp only))))) | (((with_reducible show wpAny _ _ (call (Value.ref 740) [_, Value.int 3 _, _]) _ _ _); k_dflt (first | ((refine Sp.use (put3_sp _ _ _ _ _ _ _ _ _ _ _ _ _ _ _ _ _ _ (by assumption) _ _) (by k_asm) (by k_asm) (by k_asm) (by k_asm) (by k_asm) rfl rfl rfl rfl (nb rfl) (nb rfl) (by ktr_rel) ?znd ?_; (case znd => k_allIn);  k_whole); intro v9 nl9 h9 tk9 P9; obtain ⟨a39, a19, oW9, o29, o129, oL9, oE9, oA39, oA19, hW9, rfl⟩ := P9; intro F9 N9 ND9; dsimp only [List.cons_append, List.nil_append] at N9 ND9; (try k_sweep); (try dsimp only); (obtain ⟨uw1Z, rfl⟩ := hW9.whe))))) | (((with_reducible show wpAny _ _ (call (Value.ref 740) [_, Value.int 1 _, _]) _ _ _); k_dflt (first | ((refine Sp.use (put1_sp _ _ _ _ _ _ _ _ _ _ _ _ _ _ _ _ _ _ (by assumption) _ _) (by k_asm) (by k_asm) (by k_asm) (by k_asm) (by k_asm) rfl rfl rfl rfl (nb rfl) (nb rfl) (by ktr_rel) ?znd ?_; (case znd => k_allIn);  k_whole); intro v9 nl9 h9 tk9 P9; obtain ⟨a39, a19, oW9, o29, o129, oL9, oE9, oA39, oA19, hW9, rfl⟩ := P9; intro F9 N9 ND9; dsimp only [List.cons_append, List.nil_append] at N9 ND9; (try k_sweep); (try dsimp only); (obtain ⟨uw1Z, rfl⟩ := hW9.1))))) | (((with_reducible show wpAny _ _ (call (Value.ref 57) _) _ _ _); k_dflt (first | ((refine Sp.useP (by k_asm) (by k_asm) (by k_asm) (by k_asm) (by k_asm) rfl rfl rfl rfl (by ktr_rel) ?znd (isdue_sp _ _ _ _ _ _ (by assumption)) (nb rfl) (nb rfl) ?_; (case znd => k_allIn);  k_whole); intro v9 nl9 h9 tk9 P9; obtain ⟨rfl, rfl⟩ := P9; intro F9 N9 ND9; dsimp only [List.cons_append, List.nil_append] at N9 ND9; (try k_sweep); (try dsimp only))))) | (((with_reducible show wpAny _ _ (call (Value.ref 43) _) _ _ _); k_dflt (first | ((refine Sp.useP (by k_asm) (by k_asm) (by k_asm) (by k_asm) (by k_asm) rfl rfl rfl rfl (by ktr_rel) ?znd (onoct_sp _ _ _ _ _ _ (by assumption)) (nb rfl) (nb rfl) ?_; (case znd => k_allIn);  k_whole); intro v9 nl9 h9 tk9 P9; obtain ⟨oA9, hA9, rfl⟩ := P9; intro F9 N9 ND9; dsimp only [List.cons_append, List.nil_append] at N9 ND9; (try k_sweep); (try dsimp only); (have hA99 := hA9); (obtain ⟨ua1, ua2, ua3, ua4, ua5, ua6, ua7, ua8, rfl, -⟩ := hA99)))))) | walk1 | (dsimp only; walk1) | (leave1; (try dsimp only)) | fail "no step"))
  all_goals (try dsimp only)
  all_goals (try k_unfold)
  all_goals (try dsimp only)
  all_goals (try k_unfold)
  all_goals (try dsimp only)
  all_goals (try k_unfold)
  all_goals (try dsimp only)
  all_goals (try (dsimp only))
  all_goals (with_reducible rename Fr _ _ _ _ => hf)
  all_goals (with_reducible rename News _ _ _ _ => hh)
  all_goals first | (have he9 := edge_yes p93 (by with_reducible assumption)) | (have he9 := edge_no p94 (by with_reducible assumption))
  all_goals subst he9
  all_goals (refine ret2 _ _ _ _ _ hf (news_pick hh (by ktr_rel)) ⟨_, oR9, _, _, _, _, _, _, _, _, _, _, _, rfl, ?_, ?_, hR9, hA9, .inr (.inr hW9), ⟨_, _, _, _, _, (by with_reducible assumption)⟩, rfl⟩ ?_)
  all_goals first | with_reducible assumption | exact (edge_fin h1 h0).1 | exact (edge_fin h1 h0).2 | k_allIn
end Mine
end PartM3
end SecMM
theorem Mine.flush42 : True := by first | (w_top off; walk1) | trivial
section SecNL
open PySem PySem.W PySem.Calls PyProof.Rows Mine
set_option hygiene false in
local macro_rules | `(tactic| walk_at "And") => `(tactic| ((with_reducible show (∃ _, Fr _ _ _ _) ∧ _); k_dflt (refine ⟨⟨_, by with_reducible assumption⟩, ?_⟩); try dsimp only [List.nil_append, List.cons_append]))
set_option hygiene false in
local macro_rules | `(tactic| walk_at "newList") => `(tactic| (k_here; k_dflt (((refine newList_ND (by with_reducible assumption) (by with_reducible assumption) (by with_reducible assumption) (by simp) ?_); intro D' h' F' N' ND9; (try k_sweep)))))
set_option hygiene false in
local macro_rules | `(tactic| walk_at "newTuple") => `(tactic| (k_here; k_dflt (((refine newTuple_ND (by with_reducible assumption) (by with_reducible assumption) (by with_reducible assumption) (by simp) ?_); intro D' h' F' N' ND9; (try k_sweep)))))
set_option hygiene false in
local macro_rules | `(tactic| walk_at "compareOp NotEq ref ref") => `(tactic| (k_here; (with_reducible refine gd9 ?_); k_dflt (refine ne_tup2 (by k_asm) (by k_mem) (by k_mem) rfl (by units_room) ?_)))
theorem Mine.flush43 : True := by first | (w_top off; walk1) | trivial
section PartN1
theorem Mine.flush44 : True := by first | (w_top off; walk1) | trivial
open PySem PySem.W PySem.Calls PyProof.Rows
set_option Elab.async false
set_option maxRecDepth 100000
set_option maxHeartbeats 4000000
set_option rowWalk.seconds 0
set_option pp.maxSteps 6000
namespace Mine
set_option hygiene false in
local macro_rules | `(tactic| walk_at "getMethod ref") => `(tactic| (k_here; (with_reducible refine gd3 ?_); k_dflt (refine getMethod_extend (by k_asm) (by k_mem) ?_)))
set_option hygiene false in
local macro_rules | `(tactic| walk_at "call builtin:len") => `(tactic| (k_here; (with_reducible refine gd4 ?_); k_dflt ((refine len_ba (by k_asm) (by k_mem) (by omega) ?_); intro _ _)))
set_option hygiene false in
local macro_rules | `(tactic| walk_at "subscriptTail") => `(tactic| (k_here; (with_reducible refine gd5 ?_); (with_reducible rename Fr _ _ _ _ => F'); (with_reducible rename News _ _ _ _ => N'); k_dflt ((refine slice_ba (s := ⟨_, _, _, _, _⟩) F' N' (by k_mem) (by constructor) (by constructor) (by omega) ?_); intro D' h' F' N' l1; (try k_lt l1); (try k_sweep))))
set_option hygiene false in
local macro_rules | `(tactic| walk_at "subscriptTail") => `(tactic| (k_here; (with_reducible refine gd6 ?_); (with_reducible rename Fr _ _ _ _ => F'); (with_reducible rename News _ _ _ _ => N'); k_dflt ((refine slice_by (s := ⟨_, _, _, _, _⟩) F' N' (by constructor) (by constructor) (by omega) (by first | exact picked_from0 | exact picked_all (by omega)) ?_); intro h' _ _ F' N')))
set_option hygiene false in
local macro_rules | `(tactic| walk_at "call type:bytes") => `(tactic| (k_here; (with_reducible refine gd7 ?_); k_dflt (refine call_bytes ?_)))
set_option hygiene false in
local macro_rules | `(tactic| walk_at "call type:bytes") => `(tactic| (k_here; (with_reducible refine gd1 ?_); k_dflt ((refine bytes_ba (by k_asm) (by k_mem) (by omega) ?_); intro _ _)))
set_option hygiene false in
local macro_rules | `(tactic| walk_at "call type:bytes") => `(tactic| (k_here; (with_reducible refine gd15 ?_); k_dflt ((refine bytes_int (by omega) (by omega) ?_); intro _ _ _)))
set_option hygiene false in
local macro_rules | `(tactic| walk_at "call type:bytes") => `(tactic| (k_here; (with_reducible refine gd1 ?_); k_dflt ((refine bytes_range (by k_asm) (by k_asm) rfl (by assumption) (by omega) (by omega) ?_); intro h' t' k' cc hcc0 F' N'; obtain ⟨hcc, hcc2⟩ := ite_le2 hcc0; clear hcc0; (try k_sweep))))

theorem ite_le2 {x a k : Int} [Decidable (a < k)] (h : x = if a < k then a else k) : x ≤ a ∧ x ≤ k := by split at h <;> omega
theorem rd1 {a b c : Nat} {i w : Int} (h : a = b + c) (h2 : w = a - i) : (b : Int) + c - i = w := by subst h; rw [h2, Int.natCast_add]
theorem ite_le1 {x y z : Nat} {k : Int} (h : z = x + y) : (if (x : Int) + y < k then (x : Int) + y else k) ≤ z := by subst h; rw [Int.natCast_add]; exact (ite_le2 rfl).1
theorem BkD.of {w : World} {ring most room : Int} {nx : Value} {held x edge : Int} {o : Obj} {t1 t2 t3 t4 t5 : Tok} (hd : o.IsDictOf (PySem.strKind pp w) [("ring", .int ring t1), ("most", .int most t2), ("room", .int room t3), ("next", nx), ("held", .int x t4), ("edge", .int edge t5)]) (e : x = held) : BkD w ring most room nx held edge o := by
  subst e; exact ⟨_, _, _, _, _, hd⟩
set_option hygiene false in
local macro_rules | `(tactic| walk_at "setItem ref str int") => `(tactic| (k_here; k_dflt (((refine kda_setM (knd := PySem.strKind _ _) (by with_reducible assumption) (by with_reducible assumption) (by with_reducible assumption) (by ktr_rel) (by with_reducible assumption) (strKind_is _ _ _ _) (by kob_size) ?_); intro h' o9' F' N' ND9 hd9; (try kob_lit); (try dsimp only at hd9); (try k_sweep); (try dsimp only at N')))))
set_option hygiene false in
local macro_rules | `(tactic| walk_at "compareOp NotEq int int") => `(tactic| (k_here; (with_reducible refine gd11 ?_); k_dflt (first | (refine ne_same ?he9 ?_; (case he9 => first | exact hc9 | exact hc9.symm)))))

/-- what stands between two rounds of the law -/
inductive RInv (w : World) (src : Addr) (tc : Addr) (td : Addr) (lm : Addr) (ld : Addr) (lo : Addr) (re : Addr) (rc : Addr) (rd : Addr) (am : Addr) (amd : Addr) (ac : Addr) (ad : Addr) (bk : Addr) (x : Addr) (d : Addr) (sl : Addr) (s2 : Addr) (s12 : Addr) (lt : Addr) (en : Addr) (oT : Obj) (oM : Obj) (oS : Obj) (u1 : Tok) (u2 : Tok) (u3 : Tok) (u4 : Tok) (m1 : Nat) (m2 : Nat) (ring : Int) (room : Int) (mss : Int) (f0 : Int) (l0 : Int) (m0 : Int) (nl : List (Addr × Obj)) : Prop where
  | mk (a : Int) (ta : Tok) (b0 : Int) (tb : Tok) (nn : Nat) (S : Addr) (pl : Addr) (a3 : Addr) (a1 : Addr) (oR : Obj) (oA : Obj) (oB : Obj) (oW : Obj) (o2 : Obj) (o12 : Obj) (oL : Obj) (oE : Obj) (oA3 : Obj) (oA1 : Obj) (b : Array UInt8) (p : Int) (e : Int) (tn : Tok) (j1 : Tok) (j2 : Tok) (j3 : Tok) (n : Nat) (r : Bool) (hh1 : 0 ≤ a) (hh2 : 0 ≤ b0) (hh3 : b0 < 2147483647) (hh4 : AckD w r oA) (hh5 : WIn w x d sl s2 s12 lt en a3 a1 oW oS o2 o12 oL oE oA3 oA1) (hh6 : RcD w ring room mss p e S am oR) (hh7 : p ≤ e) (hh8 : e ≤ p + (room - b.size)) (hh9 : BkD w ring mss room (.int p tn) b.size e oB) (hh10 : nl = [(src, srcO a ta b0 tb nn), (tc, instObj 847 td), (td, oT), (lm, instObj 804 ld), (ld, oM), (lo, tupO [.int 1 u1, .int 1000 u2] m1), (re, tupO [.int 2 u3, .int 80 u4] m2), (rc, instObj 1077 rd), (rd, oR), (S, baO b), (am, instObj 943 amd), (amd, asO w j1 j2 j3 ring pl), (pl, listO [] n), (ac, instObj 74 ad), (ad, oA), (x, instObj 783 d), (d, oW), (sl, oS), (s2, o2), (s12, o12), (lt, oL), (en, oE), (a3, oA3), (a1, oA1), (bk, oB)]) : RInv w src tc td lm ld lo re rc rd am amd ac ad bk x d sl s2 s12 lt en oT oM oS u1 u2 u3 u4 m1 m2 ring room mss f0 l0 m0 nl
theorem round_sp (w : World) (src tc td lm ld lo re rc rd am amd ac ad bk x d sl s2 s12 lt en : Addr) (oT oM oS : Obj) (u1 u2 u3 u4 : Tok) (m1 m2 : Nat) (ring room mss f0 l0 m0 : Int) (nl0 : List (Addr × Obj)) (hI : RInv w src tc td lm ld lo re rc rd am amd ac ad bk x d sl s2 s12 lt en oT oM oS u1 u2 u3 u4 m1 m2 ring room mss f0 l0 m0 nl0)
    (hT : TcD w lm lo re ac x (.ref rc) oT) (hM : LimD w ring mss room f0 l0 m0 oM) (hb : @Ne Nat bk 1) (hr : ring = 256 ∨ ring = 4294967296) (h2 : 2 * room < ring) (h3 : 8 ≤ room) (h3' : room ≤ 70000) (h4 : 1 ≤ mss) (h5 : mss ≤ 66000) :
    SpG w 712 3600 1130 [.ref src, .ref tc, .ref bk] nl0 (fun v nl => v = .bool true ∧ RInv w src tc td lm ld lo re rc rd am amd ac ad bk x d sl s2 s12 lt en oT oM oS u1 u2 u3 u4 m1 m2 ring room mss f0 l0 m0 nl) := by
  obtain ⟨a, ta, b0, tb, nn, S, pl, a3, a1, oR, oA, oB, oW, o2, o12, oL, oE, oA3, oA1, b, p, e, tn, j1, j2, j3, n, r, ha, hb0, hb1, hA, hW, hR, hpe, hep, hB, rfl⟩ := hI
  have hT' := hT
  obtain ⟨k0Z, rfl⟩ := hT'
  have hR' := hR
  obtain ⟨y1Z, rfl⟩ := hR'
  have hB' := hB
  obtain ⟨tb1, tb2, tb3, tb4, tb5, hB'⟩ := hB'
  have lom : (bk == sysModules) = false := by simpa [sysModules] using hb
  have r0 : ring ≠ 0 := by omega
  refine SpG.enter (binds := [("source", .ref src), ("tcb", .ref tc), ("book", .ref bk)]) (by k_is) (by k_is) (by decide) (fun s X => BindsTo.of_eq rfl) (locs rfl) ?_
  intro env outer base g mean mg mb L' h₁ s Q E B X T F N ND ret
  refine wpG_execs_consA ?_
  revert hM hb hr h2 h3 h3' h4 h5 ha hb0 hb1 hA hW hpe hep hB hT hR hB' lom r0 B X T F N ND ret
  revert w src tc td lm ld lo re rc rd am amd ac ad bk x d sl s2 s12 lt en oM oS u1 u2 u3 u4 m1 m2 ring room mss f0 l0 m0 a ta b0 tb nn S pl a3 a1 oA oB oW o2 o12 oL oE oA3 oA1 b p e tn j1 j2 j3 n r k0Z y1Z tb1 tb2 tb3 tb4 tb5 env outer base g mean mg mb L' h₁ s Q E
  (iterate 1 (refine dum ?_))
  refine eps83 (by repeat' (first | refine @instNonemptyProd _ _ ?_ ?_ | infer_instance | exact neW | exact neS | exact neRcZ | exact neTcZ)) ?_
  intro hM hb hr h2 h3 h3' h4 h5 ha hb0 hb1 hA hW hpe hep hB hT hR hB' lom r0 B X T F N ND ret
  have ND9 := ND
  have ret2 := fun v nl h tk m a b c d => ret v nl h tk m c a b d
  (repeat' (first | (k_unfold; (try dsimp only)) | (k_end; wrow_close) | ((with_reducible show wpAny _ _ (eval (Expr.Name _ _) _) _ _ _); first | ((k_here; (with_reducible first | (refine nmL (by first | exact nf1130.1 | exact nf1130.2.1 | exact nf1130.2.2.1 | exact nf1130.2.2.2.1 | exact nf1130.2.2.2.2.1 | exact nf1130.2.2.2.2.2.1 | exact nf1130.2.2.2.2.2.2.1 | exact nf1130.2.2.2.2.2.2.2.1 | exact nf1130.2.2.2.2.2.2.2.2.1) (by k_asm) (by k_dflt (exact Eq.refl (some _))) ?_) | (refine nmK nf1130.2.2.2.2.2.2.2.2.2.1 (gk_law_take _) (by k_asm) (by k_asm) (by k_asm) ?_) | (refine nmK nf1130.2.2.2.2.2.2.2.2.2.2.1 (gk_law_one _) (by k_asm) (by k_asm) (by k_asm) ?_) | (refine nmK nf1130.2.2.2.2.2.2.2.2.2.2.2.1 (gk_law_segment_right _) (by k_asm) (by k_asm) (by k_asm) ?_) | (refine nmB nf1130.2.2.2.2.2.2.2.2.2.2.2.2.1 (bk_bytes _) (by k_asm) (by k_asm) (by k_asm) ?_) | (refine nmB nf1130.2.2.2.2.2.2.2.2.2.2.2.2.2.1 (bk_range _) (by k_asm) (by k_asm) (by k_asm) ?_) | (refine nmB nf1130.2.2.2.2.2.2.2.2.2.2.2.2.2.2.1 (bk_min _) (by k_asm) (by k_asm) (by k_asm) ?_) | (refine nmB nf1130.2.2.2.2.2.2.2.2.2.2.2.2.2.2.2.1 (bk_len _) (by k_asm) (by k_asm) (by k_asm) ?_))))) | walk1 | (dsimp only; walk1) | (leave1; (try dsimp only)) | fail "no step"))
  all_goals (try dsimp only)
  all_goals (refine wpG_execs_consA ?_)
  all_goals (repeat' (first | (k_unfold; (try dsimp only)) | (k_end; wrow_close) | ((with_reducible show wpAny _ _ (eval (Expr.Name _ _) _) _ _ _); first | ((k_here; (with_reducible first | (refine nmL (by first | exact nf1130.1 | exact nf1130.2.1 | exact nf1130.2.2.1 | exact nf1130.2.2.2.1 | exact nf1130.2.2.2.2.1 | exact nf1130.2.2.2.2.2.1 | exact nf1130.2.2.2.2.2.2.1 | exact nf1130.2.2.2.2.2.2.2.1 | exact nf1130.2.2.2.2.2.2.2.2.1) (by k_asm) (by k_dflt (exact Eq.refl (some _))) ?_) | (refine nmK nf1130.2.2.2.2.2.2.2.2.2.1 (gk_law_take _) (by k_asm) (by k_asm) (by k_asm) ?_) | (refine nmK nf1130.2.2.2.2.2.2.2.2.2.2.1 (gk_law_one _) (by k_asm) (by k_asm) (by k_asm) ?_) | (refine nmK nf1130.2.2.2.2.2.2.2.2.2.2.2.1 (gk_law_segment_right _) (by k_asm) (by k_asm) (by k_asm) ?_) | (refine nmB nf1130.2.2.2.2.2.2.2.2.2.2.2.2.1 (bk_bytes _) (by k_asm) (by k_asm) (by k_asm) ?_) | (refine nmB nf1130.2.2.2.2.2.2.2.2.2.2.2.2.2.1 (bk_range _) (by k_asm) (by k_asm) (by k_asm) ?_) | (refine nmB nf1130.2.2.2.2.2.2.2.2.2.2.2.2.2.2.1 (bk_min _) (by k_asm) (by k_asm) (by k_asm) ?_) | (refine nmB nf1130.2.2.2.2.2.2.2.2.2.2.2.2.2.2.2.1 (bk_len _) (by k_asm) (by k_asm) (by k_asm) ?_))))) | ((with_reducible show wpAny _ _ (call (Value.ref _) _) _ _ _); first | (((with_reducible show wpAny _ _ (call (Value.ref 1095) _) _ _ _); k_dflt (first | ((refine Sp.use (take_sp _ _ _ _ _ _ _ _ _ ?a1 ?a2 ?a3 ?a4 ?a5) (by k_asm) (by k_asm) (by k_asm) (by k_asm) (by k_asm) rfl rfl rfl rfl (nb rfl) (nb rfl) (by ktr_rel) ?znd ?_; (case znd => k_allIn); (case a1 => first | assumption | decide | omega | exact Nat.le_of_ble_eq_true rfl | (split <;> omega) | (simp; done) | (simp; omega)); (case a2 => first | assumption | decide | omega | exact Nat.le_of_ble_eq_true rfl | (split <;> omega) | (simp; done) | (simp; omega)); (case a3 => first | assumption | decide | omega | exact Nat.le_of_ble_eq_true rfl | (split <;> omega) | (simp; done) | (simp; omega)); (case a4 => first | assumption | decide | omega | exact Nat.le_of_ble_eq_true rfl | (split <;> omega) | (simp; done) | (simp; omega)); (case a5 => first | assumption | decide | omega | exact Nat.le_of_ble_eq_true rfl | (split <;> omega) | (simp; done) | (simp; omega)); k_whole); intro v9 nl9 h9 tk9 P9; obtain ⟨k9, t9, a9, ta9, b9, tb9, n9, rfl, p91, p92, p93, p94, p95, rfl⟩ := P9; intro F9 N9 ND9; dsimp only [List.cons_append, List.nil_append] at N9 ND9; (try k_sweep); (try dsimp only)))))) | walk1 | (dsimp only; walk1) | (leave1; (try dsimp only)) | fail "no step"))
  all_goals (try dsimp only)
  all_goals (refine wpG_execs_cons (wpG_Assign_Name (wpG_MethodCall ?_)))
  all_goals (repeat' (first | (k_unfold; (try dsimp only)) | (k_end; wrow_close) | ((with_reducible show wpAny _ _ (eval (Expr.Name _ _) _) _ _ _); first | ((k_here; (with_reducible first | (refine nmL (by first | exact nf1130.1 | exact nf1130.2.1 | exact nf1130.2.2.1 | exact nf1130.2.2.2.1 | exact nf1130.2.2.2.2.1 | exact nf1130.2.2.2.2.2.1 | exact nf1130.2.2.2.2.2.2.1 | exact nf1130.2.2.2.2.2.2.2.1 | exact nf1130.2.2.2.2.2.2.2.2.1) (by k_asm) (by k_dflt (exact Eq.refl (some _))) ?_) | (refine nmK nf1130.2.2.2.2.2.2.2.2.2.1 (gk_law_take _) (by k_asm) (by k_asm) (by k_asm) ?_) | (refine nmK nf1130.2.2.2.2.2.2.2.2.2.2.1 (gk_law_one _) (by k_asm) (by k_asm) (by k_asm) ?_) | (refine nmK nf1130.2.2.2.2.2.2.2.2.2.2.2.1 (gk_law_segment_right _) (by k_asm) (by k_asm) (by k_asm) ?_) | (refine nmB nf1130.2.2.2.2.2.2.2.2.2.2.2.2.1 (bk_bytes _) (by k_asm) (by k_asm) (by k_asm) ?_) | (refine nmB nf1130.2.2.2.2.2.2.2.2.2.2.2.2.2.1 (bk_range _) (by k_asm) (by k_asm) (by k_asm) ?_) | (refine nmB nf1130.2.2.2.2.2.2.2.2.2.2.2.2.2.2.1 (bk_min _) (by k_asm) (by k_asm) (by k_asm) ?_) | (refine nmB nf1130.2.2.2.2.2.2.2.2.2.2.2.2.2.2.2.1 (bk_len _) (by k_asm) (by k_asm) (by k_asm) ?_))))) | walk1 | (dsimp only; walk1) | (leave1; (try dsimp only)) | fail "no step"))
  all_goals (try dsimp only)
  all_goals (refine wpG_callK1F (by k_asm) X (by k_is) ?_)
  all_goals (repeat' (first | (k_unfold; (try dsimp only)) | (k_end; wrow_close) | ((with_reducible show wpAny _ _ (eval (Expr.Name _ _) _) _ _ _); first | ((k_here; (with_reducible first | (refine nmL (by first | exact nf1130.1 | exact nf1130.2.1 | exact nf1130.2.2.1 | exact nf1130.2.2.2.1 | exact nf1130.2.2.2.2.1 | exact nf1130.2.2.2.2.2.1 | exact nf1130.2.2.2.2.2.2.1 | exact nf1130.2.2.2.2.2.2.2.1 | exact nf1130.2.2.2.2.2.2.2.2.1) (by k_asm) (by k_dflt (exact Eq.refl (some _))) ?_) | (refine nmK nf1130.2.2.2.2.2.2.2.2.2.1 (gk_law_take _) (by k_asm) (by k_asm) (by k_asm) ?_) | (refine nmK nf1130.2.2.2.2.2.2.2.2.2.2.1 (gk_law_one _) (by k_asm) (by k_asm) (by k_asm) ?_) | (refine nmK nf1130.2.2.2.2.2.2.2.2.2.2.2.1 (gk_law_segment_right _) (by k_asm) (by k_asm) (by k_asm) ?_) | (refine nmB nf1130.2.2.2.2.2.2.2.2.2.2.2.2.1 (bk_bytes _) (by k_asm) (by k_asm) (by k_asm) ?_) | (refine nmB nf1130.2.2.2.2.2.2.2.2.2.2.2.2.2.1 (bk_range _) (by k_asm) (by k_asm) (by k_asm) ?_) | (refine nmB nf1130.2.2.2.2.2.2.2.2.2.2.2.2.2.2.1 (bk_min _) (by k_asm) (by k_asm) (by k_asm) ?_) | (refine nmB nf1130.2.2.2.2.2.2.2.2.2.2.2.2.2.2.2.1 (bk_len _) (by k_asm) (by k_asm) (by k_asm) ?_))))) | walk1 | (dsimp only; walk1) | (leave1; (try dsimp only)) | fail "no step"))
  all_goals (try dsimp only)
  all_goals (with_reducible rename Fr _ _ _ _ => hf)
  all_goals (with_reducible rename News _ _ _ _ => hh)
  refine SpG.useP B hf X hh T rfl rfl rfl rfl (by ktr_rel) ?znd (arrive_sp _ _ _ _ _ _ _ _ _ _ _ _ _ _ _ _ _ _ _ _ _ hR hr ?a1 hpe ?a2 ?a3 ?a4) (nb rfl) (nb rfl) ?_
  case znd => k_allIn
  case a1 => clear hh ND9; omega
  case a2 => clear hh ND9; omega
  case a3 => clear hh ND9; omega
  case a4 => clear hh ND9; omega
  intro v9 nl9 h9 tk9 P9 F9 N9 ND9
  obtain ⟨tup9, oR9, b9, pl9, jj1, jj2, jj3, n9, m9, t9, rfl, hb9, hR9, rfl⟩ := P9
  have hR99 := hR9
  obtain ⟨yy1Z, rfl⟩ := hR99
  clear hf hh
  dsimp only [List.cons_append, List.nil_append] at N9 ND9
  try dsimp only
  k_steps
  all_goals (try dsimp only)
  all_goals (refine wpG_execs_consA ?_)
  all_goals (repeat' (first | (k_unfold; (try dsimp only)) | (k_end; wrow_close) | ((with_reducible show wpAny _ _ (eval (Expr.Name _ _) _) _ _ _); first | ((k_here; (with_reducible first | (refine nmL (by first | exact nf1130.1 | exact nf1130.2.1 | exact nf1130.2.2.1 | exact nf1130.2.2.2.1 | exact nf1130.2.2.2.2.1 | exact nf1130.2.2.2.2.2.1 | exact nf1130.2.2.2.2.2.2.1 | exact nf1130.2.2.2.2.2.2.2.1 | exact nf1130.2.2.2.2.2.2.2.2.1) (by k_asm) (by k_dflt (exact Eq.refl (some _))) ?_) | (refine nmK nf1130.2.2.2.2.2.2.2.2.2.1 (gk_law_take _) (by k_asm) (by k_asm) (by k_asm) ?_) | (refine nmK nf1130.2.2.2.2.2.2.2.2.2.2.1 (gk_law_one _) (by k_asm) (by k_asm) (by k_asm) ?_) | (refine nmK nf1130.2.2.2.2.2.2.2.2.2.2.2.1 (gk_law_segment_right _) (by k_asm) (by k_asm) (by k_asm) ?_) | (refine nmB nf1130.2.2.2.2.2.2.2.2.2.2.2.2.1 (bk_bytes _) (by k_asm) (by k_asm) (by k_asm) ?_) | (refine nmB nf1130.2.2.2.2.2.2.2.2.2.2.2.2.2.1 (bk_range _) (by k_asm) (by k_asm) (by k_asm) ?_) | (refine nmB nf1130.2.2.2.2.2.2.2.2.2.2.2.2.2.2.1 (bk_min _) (by k_asm) (by k_asm) (by k_asm) ?_) | (refine nmB nf1130.2.2.2.2.2.2.2.2.2.2.2.2.2.2.2.1 (bk_len _) (by k_asm) (by k_asm) (by k_asm) ?_))))) | walk1 | (dsimp only; walk1) | (leave1; (try dsimp only)) | fail "no step"))
  all_goals (try dsimp only)
  all_goals (refine wpG_execs_consA ?_)
  all_goals (repeat' (first | (k_unfold; (try dsimp only)) | (k_end; wrow_close) | ((with_reducible show wpAny _ _ (eval (Expr.Name _ _) _) _ _ _); first | ((k_here; (with_reducible first | (refine nmL (by first | exact nf1130.1 | exact nf1130.2.1 | exact nf1130.2.2.1 | exact nf1130.2.2.2.1 | exact nf1130.2.2.2.2.1 | exact nf1130.2.2.2.2.2.1 | exact nf1130.2.2.2.2.2.2.1 | exact nf1130.2.2.2.2.2.2.2.1 | exact nf1130.2.2.2.2.2.2.2.2.1) (by k_asm) (by k_dflt (exact Eq.refl (some _))) ?_) | (refine nmK nf1130.2.2.2.2.2.2.2.2.2.1 (gk_law_take _) (by k_asm) (by k_asm) (by k_asm) ?_) | (refine nmK nf1130.2.2.2.2.2.2.2.2.2.2.1 (gk_law_one _) (by k_asm) (by k_asm) (by k_asm) ?_) | (refine nmK nf1130.2.2.2.2.2.2.2.2.2.2.2.1 (gk_law_segment_right _) (by k_asm) (by k_asm) (by k_asm) ?_) | (refine nmB nf1130.2.2.2.2.2.2.2.2.2.2.2.2.1 (bk_bytes _) (by k_asm) (by k_asm) (by k_asm) ?_) | (refine nmB nf1130.2.2.2.2.2.2.2.2.2.2.2.2.2.1 (bk_range _) (by k_asm) (by k_asm) (by k_asm) ?_) | (refine nmB nf1130.2.2.2.2.2.2.2.2.2.2.2.2.2.2.1 (bk_min _) (by k_asm) (by k_asm) (by k_asm) ?_) | (refine nmB nf1130.2.2.2.2.2.2.2.2.2.2.2.2.2.2.2.1 (bk_len _) (by k_asm) (by k_asm) (by k_asm) ?_))))) | walk1 | (dsimp only; walk1) | (leave1; (try dsimp only)) | fail "no step"))
  all_goals (try dsimp only)
  all_goals (refine wpG_execs_consA ?_)
  all_goals (repeat' (first | (k_unfold; (try dsimp only)) | (k_end; wrow_close) | ((with_reducible show wpAny _ _ (eval (Expr.Name _ _) _) _ _ _); first | ((k_here; (with_reducible first | (refine nmL (by first | exact nf1130.1 | exact nf1130.2.1 | exact nf1130.2.2.1 | exact nf1130.2.2.2.1 | exact nf1130.2.2.2.2.1 | exact nf1130.2.2.2.2.2.1 | exact nf1130.2.2.2.2.2.2.1 | exact nf1130.2.2.2.2.2.2.2.1 | exact nf1130.2.2.2.2.2.2.2.2.1) (by k_asm) (by k_dflt (exact Eq.refl (some _))) ?_) | (refine nmK nf1130.2.2.2.2.2.2.2.2.2.1 (gk_law_take _) (by k_asm) (by k_asm) (by k_asm) ?_) | (refine nmK nf1130.2.2.2.2.2.2.2.2.2.2.1 (gk_law_one _) (by k_asm) (by k_asm) (by k_asm) ?_) | (refine nmK nf1130.2.2.2.2.2.2.2.2.2.2.2.1 (gk_law_segment_right _) (by k_asm) (by k_asm) (by k_asm) ?_) | (refine nmB nf1130.2.2.2.2.2.2.2.2.2.2.2.2.1 (bk_bytes _) (by k_asm) (by k_asm) (by k_asm) ?_) | (refine nmB nf1130.2.2.2.2.2.2.2.2.2.2.2.2.2.1 (bk_range _) (by k_asm) (by k_asm) (by k_asm) ?_) | (refine nmB nf1130.2.2.2.2.2.2.2.2.2.2.2.2.2.2.1 (bk_min _) (by k_asm) (by k_asm) (by k_asm) ?_) | (refine nmB nf1130.2.2.2.2.2.2.2.2.2.2.2.2.2.2.2.1 (bk_len _) (by k_asm) (by k_asm) (by k_asm) ?_))))) | ((with_reducible show wpAny _ _ (call (Value.ref _) _) _ _ _); first | (((with_reducible show wpAny _ _ (call (Value.ref 1102) _) _ _ _); k_dflt (first | ((refine Sp.use (one_sp _ _ _ _ _ _ _ _ _ _ ?a1 ?a2 ?a3 ?a4 ?a5) (by k_asm) (by k_asm) (by k_asm) (by k_asm) (by k_asm) rfl rfl rfl rfl (nb rfl) (nb rfl) (by ktr_rel) ?znd ?_; (case znd => k_allIn); (case a1 => first | assumption | decide | omega | exact Nat.le_of_ble_eq_true rfl | (split <;> omega) | (simp; done) | (simp; omega)); (case a2 => first | assumption | decide | omega | exact Nat.le_of_ble_eq_true rfl | (split <;> omega) | (simp; done) | (simp; omega)); (case a3 => first | assumption | decide | omega | exact Nat.le_of_ble_eq_true rfl | (split <;> omega) | (simp; done) | (simp; omega)); (case a4 => first | assumption | decide | omega | exact Nat.le_of_ble_eq_true rfl | (split <;> omega) | (simp; done) | (simp; omega)); (case a5 => first | assumption | decide | omega | exact Nat.le_of_ble_eq_true rfl | (split <;> omega) | (simp; done) | (simp; omega)); k_whole); intro v9 nl9 h9 tk9 P9; obtain ⟨a9, ta9, b9, tb9, n9, p91, p93, p94, p95, rfl⟩ := P9; intro F9 N9 ND9; dsimp only [List.cons_append, List.nil_append] at N9 ND9; (try k_sweep); (try dsimp only); (first | (obtain ⟨k9, t9, rfl, q9⟩ := mem2 p91) | (obtain ⟨k9, t9, rfl, q9⟩ := mem3 p91) | (obtain ⟨k9, t9, rfl, q9⟩ := mem4 p91) | (obtain ⟨k9, t9, rfl, q9⟩ := mem7 p91)); clear p91))))) | walk1 | (dsimp only; walk1) | (leave1; (try dsimp only)) | fail "no step"))
  all_goals (try dsimp only)
  all_goals (refine wpG.of ?_)
  all_goals (repeat' (first | (k_unfold; (try dsimp only)) | (k_end; wrow_close) | ((with_reducible show wpAny _ _ (eval (Expr.Name _ _) _) _ _ _); first | ((k_here; (with_reducible first | (refine nmL (by first | exact nf1130.1 | exact nf1130.2.1 | exact nf1130.2.2.1 | exact nf1130.2.2.2.1 | exact nf1130.2.2.2.2.1 | exact nf1130.2.2.2.2.2.1 | exact nf1130.2.2.2.2.2.2.1 | exact nf1130.2.2.2.2.2.2.2.1 | exact nf1130.2.2.2.2.2.2.2.2.1) (by k_asm) (by k_dflt (exact Eq.refl (some _))) ?_) | (refine nmK nf1130.2.2.2.2.2.2.2.2.2.1 (gk_law_take _) (by k_asm) (by k_asm) (by k_asm) ?_) | (refine nmK nf1130.2.2.2.2.2.2.2.2.2.2.1 (gk_law_one _) (by k_asm) (by k_asm) (by k_asm) ?_) | (refine nmK nf1130.2.2.2.2.2.2.2.2.2.2.2.1 (gk_law_segment_right _) (by k_asm) (by k_asm) (by k_asm) ?_) | (refine nmB nf1130.2.2.2.2.2.2.2.2.2.2.2.2.1 (bk_bytes _) (by k_asm) (by k_asm) (by k_asm) ?_) | (refine nmB nf1130.2.2.2.2.2.2.2.2.2.2.2.2.2.1 (bk_range _) (by k_asm) (by k_asm) (by k_asm) ?_) | (refine nmB nf1130.2.2.2.2.2.2.2.2.2.2.2.2.2.2.1 (bk_min _) (by k_asm) (by k_asm) (by k_asm) ?_) | (refine nmB nf1130.2.2.2.2.2.2.2.2.2.2.2.2.2.2.2.1 (bk_len _) (by k_asm) (by k_asm) (by k_asm) ?_))))) | ((with_reducible show wpAny _ _ (call (Value.ref _) _) _ _ _); first | (((with_reducible show wpAny _ _ (call (Value.ref 1123) _) _ _ _); k_dflt (first | ((refine Sp.use (segR_sp _ _ _ _ _ _ _ _ _ _ _ _ _ _ _ _ _ _ _ _ _ _ _ _ _ _ _ _ _ _ _ _ _ _ _ _ _ _ _ _ _ _ _ _ _ _ _ _ _ _ _ _ _ _ _ _ _ _ _ (by with_reducible assumption) (by with_reducible assumption) (by with_reducible assumption) (by with_reducible assumption) (by with_reducible assumption) (by with_reducible assumption) ?a1 ?a2 (by with_reducible assumption) (by with_reducible assumption) (by with_reducible assumption) (by with_reducible assumption) (by with_reducible assumption) (by exact BkD.of (held := (bb9.size : Int)) hd9 (by exact rd1 hb9 hb99)) (by with_reducible assumption) (by exact q9)) (by k_asm) (by k_asm) (by k_asm) (by k_asm) (by k_asm) rfl rfl rfl rfl (nb rfl) (nb rfl) (by ktr_rel) ?znd ?_; (case znd => k_allIn); (case a1 => first | assumption | decide | omega | exact Nat.le_of_ble_eq_true rfl | (split <;> omega) | (simp; done) | (simp; omega)); (case a2 => first | assumption | decide | omega | exact Nat.le_of_ble_eq_true rfl | (split <;> omega) | (simp; done) | (simp; omega)); k_whole); intro v9 nl9 h9 tk9 P9; obtain ⟨e9, oR9, oA9, oB9, a39, a19, oW9, o29, o129, oL9, oE9, oA39, oA19, rfl, q91, q92, hR9, hA9, hW9, hB9, rfl⟩ := P9; intro F9 N9 ND9; dsimp only [List.cons_append, List.nil_append] at N9 ND9; (try k_sweep); (try dsimp only))))) | (((with_reducible show wpAny _ _ (call (Value.ref 1046) _) _ _ _); k_dflt (first | ((refine Sp.useP (by k_asm) (by k_asm) (by k_asm) (by k_asm) (by k_asm) rfl rfl rfl rfl (by ktr_rel) ?znd (read_sp _ _ _ _ _ _ _ _ _ _ _ _ _ _ (by with_reducible assumption) ?a1 ?a2 ?a3) (nb rfl) (nb rfl) ?_; (case znd => k_allIn); (case a1 => first | assumption | decide | exact ite_le1 hb9 | omega | exact Nat.le_of_ble_eq_true rfl | (split <;> omega) | (simp; done) | (simp; omega)); (case a2 => first | assumption | decide | exact ite_le1 hb9 | omega | exact Nat.le_of_ble_eq_true rfl | (split <;> omega) | (simp; done) | (simp; omega)); (case a3 => first | assumption | decide | exact ite_le1 hb9 | omega | exact Nat.le_of_ble_eq_true rfl | (split <;> omega) | (simp; done) | (simp; omega)); k_whole); intro v9 nl9 h9 tk9 P9; obtain ⟨S9, bb9, cc9, t9, oR9, rfl, hc9, hb99, hR9, rfl⟩ := P9; intro F9 N9 ND9; dsimp only [List.cons_append, List.nil_append] at N9 ND9; (try k_sweep); (try dsimp only))))) | (((with_reducible show wpAny _ _ (call (Value.ref 1102) _) _ _ _); k_dflt (first | ((refine Sp.use (one_sp _ _ _ _ _ _ _ _ _ _ ?a1 ?a2 ?a3 ?a4 ?a5) (by k_asm) (by k_asm) (by k_asm) (by k_asm) (by k_asm) rfl rfl rfl rfl (nb rfl) (nb rfl) (by ktr_rel) ?znd ?_; (case znd => k_allIn); (case a1 => first | assumption | decide | omega | exact Nat.le_of_ble_eq_true rfl | (split <;> omega) | (simp; done) | (simp; omega)); (case a2 => first | assumption | decide | omega | exact Nat.le_of_ble_eq_true rfl | (split <;> omega) | (simp; done) | (simp; omega)); (case a3 => first | assumption | decide | omega | exact Nat.le_of_ble_eq_true rfl | (split <;> omega) | (simp; done) | (simp; omega)); (case a4 => first | assumption | decide | omega | exact Nat.le_of_ble_eq_true rfl | (split <;> omega) | (simp; done) | (simp; omega)); (case a5 => first | assumption | decide | omega | exact Nat.le_of_ble_eq_true rfl | (split <;> omega) | (simp; done) | (simp; omega)); k_whole); intro v9 nl9 h9 tk9 P9; obtain ⟨a9, ta9, b9, tb9, n9, p91, p93, p94, p95, rfl⟩ := P9; intro F9 N9 ND9; dsimp only [List.cons_append, List.nil_append] at N9 ND9; (try k_sweep); (try dsimp only); (first | (obtain ⟨k9, t9, rfl, q9⟩ := mem2 p91) | (obtain ⟨k9, t9, rfl, q9⟩ := mem3 p91) | (obtain ⟨k9, t9, rfl, q9⟩ := mem4 p91) | (obtain ⟨k9, t9, rfl, q9⟩ := mem7 p91)); clear p91)))) | (((with_reducible show wpAny _ _ (call (Value.ref 1095) _) _ _ _); k_dflt (first | ((refine Sp.use (take_sp _ _ _ _ _ _ _ _ _ ?a1 ?a2 ?a3 ?a4 ?a5) (by k_asm) (by k_asm) (by k_asm) (by k_asm) (by k_asm) rfl rfl rfl rfl (nb rfl) (nb rfl) (by ktr_rel) ?znd ?_; (case znd => k_allIn); (case a1 => first | assumption | decide | omega | exact Nat.le_of_ble_eq_true rfl | (split <;> omega) | (simp; done) | (simp; omega)); (case a2 => first | assumption | decide | omega | exact Nat.le_of_ble_eq_true rfl | (split <;> omega) | (simp; done) | (simp; omega)); (case a3 => first | assumption | decide | omega | exact Nat.le_of_ble_eq_true rfl | (split <;> omega) | (simp; done) | (simp; omega)); (case a4 => first | assumption | decide | omega | exact Nat.le_of_ble_eq_true rfl | (split <;> omega) | (simp; done) | (simp; omega)); (case a5 => first | assumption | decide | omega | exact Nat.le_of_ble_eq_true rfl | (split <;> omega) | (simp; done) | (simp; omega)); k_whole); intro v9 nl9 h9 tk9 P9; obtain ⟨k9, t9, a9, ta9, b9, tb9, n9, rfl, p91, p92, p93, p94, p95, rfl⟩ := P9; intro F9 N9 ND9; dsimp only [List.cons_append, List.nil_append] at N9 ND9; (try k_sweep); (try dsimp only)))))) | walk1 | (dsimp only; walk1) | (leave1; (try dsimp only)) | fail "no step"))
  all_goals (try dsimp only)
  all_goals (try k_unfold)
  all_goals (try dsimp only)
  all_goals (try k_unfold)
  all_goals (try dsimp only)
  all_goals (try k_unfold)
  all_goals (try dsimp only)
  all_goals (try (dsimp only))
  all_goals (with_reducible rename Fr _ _ _ _ => hf)
  all_goals (with_reducible rename News _ _ _ _ => hh)
  all_goals (refine ret2 _ _ _ _ _ hf (news_pick hh (by ktr_rel)) ⟨rfl, _, _, _, _, _, _, _, _, _, _, _, _, _, _, _, _, _, _, _, _, _, _, _, _, _, _, _, _, p93, p94, p95, hA9, hW9, hR9, q91, q92, hB9, rfl⟩ ?_)
  all_goals k_allIn
end Mine
end PartN1
section PartL2
theorem Mine.flush45 : True := by first | (w_top off; walk1) | trivial
open PySem PySem.W PySem.Calls PyProof.Rows
set_option Elab.async false
set_option maxRecDepth 100000
set_option maxHeartbeats 4000000
set_option rowWalk.seconds 0
set_option pp.maxSteps 6000
namespace Mine
set_option hygiene false in
local macro_rules | `(tactic| walk_at "setItem ref str int") => `(tactic| (k_here; k_dflt (((refine kda_setM (knd := PySem.strKind _ _) (by with_reducible assumption) (by with_reducible assumption) (by with_reducible assumption) (by ktr_rel) (by with_reducible assumption) (strKind_is _ _ _ _) (by kob_size) ?_); intro h' o9' F' N' ND9 hd9; (try kob_lit); (try k_sweep); (try dsimp only at N')))))

theorem pick_tail {α : Type} (x : α) : ∀ l : List α, Pick l (x :: l) [x]
  | l => List.perm_append_comm
/-- the loop's invariant -/
inductive JLaw (w : World) (m : PySem.Str → Option Value) (nl : List (Addr × Obj)) : Prop where
  | mk (src : Addr) (tc : Addr) (td : Addr) (lm : Addr) (ld : Addr) (lo : Addr) (re : Addr) (rc : Addr) (rd : Addr) (am : Addr) (amd : Addr) (ac : Addr) (ad : Addr) (bk : Addr) (x : Addr) (d : Addr) (sl : Addr) (s2 : Addr) (s12 : Addr) (lt : Addr) (en : Addr) (oT : Obj) (oM : Obj) (oS : Obj) (u1 : Tok) (u2 : Tok) (u3 : Tok) (u4 : Tok) (m1 : Nat) (m2 : Nat) (ring : Int) (room : Int) (mss : Int) (f0 : Int) (l0 : Int) (m0 : Int) (hh1 : RInv w src tc td lm ld lo re rc rd am amd ac ad bk x d sl s2 s12 lt en oT oM oS u1 u2 u3 u4 m1 m2 ring room mss f0 l0 m0 nl) (hh2 : TcD w lm lo re ac x (.ref rc) oT) (hh3 : LimD w ring mss room f0 l0 m0 oM) (hh4 : @Ne Nat bk 1) (hh5 : (ring = 256 ∨ ring = 4294967296)) (hh6 : 2 * room < ring) (hh7 : 8 ≤ room) (hh8 : room ≤ 70000) (hh9 : 1 ≤ mss) (hh10 : mss ≤ 66000) (hh11 : m (PySem.Str.ofString "source") = some (.ref src)) (hh12 : m (PySem.Str.ofString "tcb") = some (.ref tc)) (hh13 : m (PySem.Str.ofString "book") = some (.ref bk)) : JLaw w m nl
set_option hygiene false in
theorem law_step (w : World) (s : Shared) (mean : ExcName → Option Value) (mg mb : PySem.Str → Option Value) (X : (K w.params).In s.heap) (T : Top qv (looseW qv loose) mean mg mb s.heap) (L' : Addr) (B : Below callerA s.heap [] s.heap) (p1 p2 p3 p4 p5 p6 p7 p8 p9 : Pos)
    (m₁ : PySem.Str → Option Value) (news₁ : List (Addr × Obj)) (h₁ : Heap) (tk : Nat) (I : Addr) (o : Obj) (v : Int) (t : Tok) (hJ : JLaw w m₁ news₁)
    (F : Fr s.heap L' h₁ (fun y => if y = PySem.Str.ofString "turn" then some (.int v t) else m₁ y)) (N : News s.heap L' h₁ ((I, o) :: news₁)) (ND : (((I, o) :: news₁).map (·.1)).Nodup) :
    wpG (model pp w) (callerA.deeper (envOf (PySem.Str.ofString "law") s1137P.1 L' 1137 (.ref 1136))) (execs [Stmt.If (Expr.UnaryOp .Not (Expr.Call (Expr.Name (PySem.Str.ofString "_law_round_right") p1) [Expr.Name (PySem.Str.ofString "source") p2, Expr.Name (PySem.Str.ofString "tcb") p3, Expr.Name (PySem.Str.ofString "book") p4] [] p5) p6)
      [Stmt.Return (some (Expr.Constant (.bool false) 0 p7)) p8] [] p9] (envOf (PySem.Str.ofString "law") s1137P.1 L' 1137 (.ref 1136)))
      (fun f s₂ => f = .next ∧ ∃ m₂ news₂ h' tk', JLaw w m₂ news₂ ∧ s₂ = { s with heap := h', toks := tk' } ∧ Fr s.heap L' h' m₂ ∧ News s.heap L' h' ((I, o) :: news₂) ∧ (((I, o) :: news₂).map (·.1)).Nodup) (fun _ _ => False) { s with heap := h₁, toks := tk } := by
  obtain ⟨src, tc, td, lm, ld9, lo, re, rc, rd, am, amd, ac, ad, bk, x, d, sl, s2, s12, lt, en, oT, oM, oS, u1, u2, u3, u4, m1, m2, ring, room, mss, f0, l0, m0, hRI, hT, hM, hb, hr, hq2, hq3, hq4, hq5, hq6, hm1, hm2, hm3⟩ := hJ
  refine wpG_execs_cons (wpG_If (wpG_isTrue_not (wpG_isTrue_plain (wpG_Call ?_))))
  (repeat' (first | (k_unfold; (try dsimp only)) | (k_end; wrow_close) | ((with_reducible show wpAny _ _ (eval (Expr.Name _ _) _) _ _ _); first | ((k_here; (with_reducible first | (refine nmL (by first | exact nf1137.1 | exact nf1137.2.1 | exact nf1137.2.2.1 | exact nf1137.2.2.2.1 | exact nf1137.2.2.2.2.1 | exact nf1137.2.2.2.2.2.1 | exact nf1137.2.2.2.2.2.2.1 | exact nf1137.2.2.2.2.2.2.2.1 | exact nf1137.2.2.2.2.2.2.2.2.1 | exact nf1137.2.2.2.2.2.2.2.2.2.1 | exact nf1137.2.2.2.2.2.2.2.2.2.2.1 | exact nf1137.2.2.2.2.2.2.2.2.2.2.2.1 | exact nf1137.2.2.2.2.2.2.2.2.2.2.2.2.1 | exact nf1137.2.2.2.2.2.2.2.2.2.2.2.2.2.1) (by k_asm) (by k_dflt (exact Eq.refl (some _))) ?_) | (refine nmK nf1137.2.2.2.2.2.2.2.2.2.2.2.2.2.2.1 (gk_law_pool _) (by k_asm) (by k_asm) (by k_asm) ?_) | (refine nmK nf1137.2.2.2.2.2.2.2.2.2.2.2.2.2.2.2.1 (gk_law_limits _) (by k_asm) (by k_asm) (by k_asm) ?_) | (refine nmK nf1137.2.2.2.2.2.2.2.2.2.2.2.2.2.2.2.2.1 (gk_Limits _) (by k_asm) (by k_asm) (by k_asm) ?_) | (refine nmK nf1137.2.2.2.2.2.2.2.2.2.2.2.2.2.2.2.2.2.1 (gk_Tcb _) (by k_asm) (by k_asm) (by k_asm) ?_) | (refine nmK nf1137.2.2.2.2.2.2.2.2.2.2.2.2.2.2.2.2.2.2.1 (gk_law_take _) (by k_asm) (by k_asm) (by k_asm) ?_) | (refine nmK nf1137.2.2.2.2.2.2.2.2.2.2.2.2.2.2.2.2.2.2.2.1 (gk_law_clock_right _) (by k_asm) (by k_asm) (by k_asm) ?_) | (refine nmK nf1137.2.2.2.2.2.2.2.2.2.2.2.2.2.2.2.2.2.2.2.2.1 (gk_law_segment_right _) (by k_asm) (by k_asm) (by k_asm) ?_) | (refine nmK nf1137.2.2.2.2.2.2.2.2.2.2.2.2.2.2.2.2.2.2.2.2.2.1 (gk_law_one _) (by k_asm) (by k_asm) (by k_asm) ?_) | (refine nmK nf1137.2.2.2.2.2.2.2.2.2.2.2.2.2.2.2.2.2.2.2.2.2.2.1 (gk_Receiver _) (by k_asm) (by k_asm) (by k_asm) ?_) | (refine nmK nf1137.2.2.2.2.2.2.2.2.2.2.2.2.2.2.2.2.2.2.2.2.2.2.2.1 (gk_law_round_right _) (by k_asm) (by k_asm) (by k_asm) ?_) | (refine nmB nf1137.2.2.2.2.2.2.2.2.2.2.2.2.2.2.2.2.2.2.2.2.2.2.2.2.1 (bk_range _) (by k_asm) (by k_asm) (by k_asm) ?_))))) | walk1 | (dsimp only; walk1) | (leave1; (try dsimp only)) | fail "no step"))
  all_goals (try dsimp only)
  refine wpG_callK1 (L := L') (m := fun _ => none) X (by k_is) ?_
  (repeat' (first | (k_unfold; (try dsimp only)) | (k_end; wrow_close) | ((with_reducible show wpAny _ _ (eval (Expr.Name _ _) _) _ _ _); first | ((k_here; k_dflt ((refine ld (by with_reducible assumption) (by first | exact hm1 | exact hm2 | exact hm3) ?_))))) | walk1 | (dsimp only; walk1) | (leave1; (try dsimp only)) | fail "no step"))
  all_goals (try dsimp only)
  refine SpG.useP B F X N T rfl rfl rfl rfl (pick_tail _ _) ND (round_sp w src tc td lm ld9 lo re rc rd am amd ac ad bk x d sl s2 s12 lt en oT oM oS u1 u2 u3 u4 m1 m2 ring room mss f0 l0 m0 news₁ hRI hT hM hb hr hq2 hq3 hq4 hq5 hq6) (nb rfl) (nb rfl) ?_
  intro v9 nl9 h9 tk9 P9 F9 N9 ND9
  obtain ⟨rfl, hRI9⟩ := P9
  try dsimp only
  k_steps
  all_goals (try dsimp only)
  refine wpG_execs_nil ?_
  refine wpG_execs_nil ?_
  refine ⟨rfl, (fun y => if y = PySem.Str.ofString "turn" then some (.int v t) else m₁ y), nl9, _, _, ⟨src, tc, td, lm, ld9, lo, re, rc, rd, am, amd, ac, ad, bk, x, d, sl, s2, s12, lt, en, oT, oM, oS, u1, u2, u3, u4, m1, m2, ring, room, mss, f0, l0, m0, hRI9, hT, hM, hb, hr, hq2, hq3, hq4, hq5, hq6, hm1, hm2, hm3⟩, rfl, F9, fun p hp => N9 p ?_, ?_⟩
  · rcases List.mem_cons.mp hp with rfl | hp
    · exact List.mem_append_right _ (.head _)
    · exact List.mem_append_left _ hp
  · have pp := (List.perm_append_comm (l₁ := nl9) (l₂ := [(I, o)])).map (·.1)
    exact pp.nodup_iff.mp ND9
end Mine
end PartL2
section PartL1
theorem Mine.flush46 : True := by first | (w_top off; walk1) | trivial
open PySem PySem.W PySem.Calls PyProof.Rows
set_option Elab.async false
set_option maxRecDepth 100000
set_option maxHeartbeats 4000000
set_option rowWalk.seconds 0
set_option pp.maxSteps 6000
namespace Mine

def JRng (h₀ : Heap) (L : Addr) (s : Shared) (J : (PySem.Str → Option Value) → List (Addr × Obj) → Prop) (v : Value) (s₁ : Shared) : Prop :=
  ∃ r n t u z k h₁ m₁ news₁, v = .ref r ∧ s₁ = { s with heap := h₁, toks := k } ∧ IsRange h₁ r 0 n 1 t u z ∧ 0 ≤ n ∧ n ≤ 100 ∧ Fr h₀ L h₁ m₁ ∧ News h₀ L h₁ news₁ ∧ (news₁.map (·.1)).Nodup ∧ J m₁ news₁

theorem nd_of {h₀ h : Heap} {L : Addr} {all : List (Addr × Obj)} (N : News h₀ L h all) (nd : (all.map (·.1)).Nodup) : (all.map (·.1)).Nodup := nd
theorem nd_same {h₀ h : Heap} {L : Addr} {all all' : List (Addr × Obj)} (N : News h₀ L h all') (nd : (all.map (·.1)).Nodup) (e : all'.map (·.1) = all.map (·.1)) : (all'.map (·.1)).Nodup := e ▸ nd
theorem nd_lt {news : List (Addr × Obj)} {D : Addr} (o : Obj) (nd : (news.map (·.1)).Nodup) (l1 : ∀ p ∈ news, p.1 < D) : (((D, o) :: news).map (·.1)).Nodup := by
  rw [List.map_cons, List.nodup_cons]
  refine ⟨fun q => ?_, nd⟩
  obtain ⟨p, hp, e⟩ := List.mem_map.mp q
  have e : p.1 = D := e
  exact Nat.lt_irrefl D (e ▸ l1 p hp)
set_option hygiene false in
local macro_rules | `(tactic| walk_at "setItem ref str int") => `(tactic| (k_here; k_dflt (((refine kda_setM (knd := PySem.strKind _ _) (by with_reducible assumption) (by with_reducible assumption) (by with_reducible assumption) (by ktr_rel) (by with_reducible assumption) (strKind_is _ _ _ _) (by first | (simp only [List.length_cons, List.length_nil]; rw [sizeLine_eq]; exact Nat.le_of_ble_eq_true rfl) | kob_size) ?_); intro h' o9' F' N' ND9 hd9; (try kob_lit); (try dsimp only at hd9); (try k_sweep); (try dsimp only at N')))))
set_option hygiene false in
local macro_rules | `(tactic| walk_at "JPool") => `(tactic| (k_dflt ((exact JPool.intro (by with_reducible assumption) (by with_reducible assumption) (by ktr_rel) (by refine Int.mul_nonneg ?_ ?_ <;> ((try split) <;> omega)) (Int.fmod_nonneg_of_pos _ (by decide)) (Int.fmod_lt_of_pos _ (by decide)) (fun p hp => nomatch hp)))))
set_option hygiene false in
local macro_rules | `(tactic| walk_at "eval Dict") => `(tactic| (k_here; k_dflt (((refine kdn_str (by rfl) (by k_asm) (by k_asm) (Top.nolimit (by k_asm)) (by rfl) (by rfl) (List.cons_ne_nil _ _) (nb rfl) ?_); intro bk h' oBk F' N' l1 lob hd'; (have ND9 := nd_lt oBk ND9 l1); clear l1; (try k_sweep)))))
set_option hygiene false in
local macro_rules | `(tactic| walk_at "pyIter ref") => `(tactic| ((with_reducible show wpAny _ _ (pyIter (Value.ref _)) (fun it s₂ => LoopAtV _ _ _ _ _ _ _ _ _ it s₂) _ _); k_dflt (((with_reducible rename News _ _ _ _ => lN'); (with_reducible rename Fr _ _ _ _ => lF'); (with_unfolding_all refine iter_listUnr (vs := [Value.int 2 _, Value.int 4 _]) (by rfl) lF' lN' (by k_mem) (by rfl) (by rfl) ?_); clear lF'; intro i' l1; (have ND9 := nd_lt (itR 0 0) ND9 l1); (try k_lt l1)))))
theorem law_call (w : World) (s : Shared) (mean : ExcName → Option Value) (mg mb : PySem.Str → Option Value) (X : (K w.params).In s.heap) (T : Top qv (looseW qv loose) mean mg mb s.heap) (sc : Addr) (vs : List Value) (ns : List Int)
    (hl : s.heap.IsList sc vs.toArray) (hi : IntsAre vs ns) (hlen : vs.length ≤ 63) (R : Result → Shared → Prop) (ret : ∀ h' tk, (∀ b o, s.heap.get? b = some o → h'.get? b = some o) → R (.ok (.ret (.bool true))) { s with heap := h', toks := tk }) :
    codeG (model pp w) callerA (.call (.ref 1137) ⟨[.ref sc], []⟩) R s := by
  refine TopEnter (binds := [("script", .ref sc)]) (by k_is) (by k_is) (fun s X => BindsTo.of_eq rfl) (locs rfl) X T ?_
  intro L' h₁ Q E hQ B F
  subst hQ
  obtain hn : ns.length ≤ 63 := by have := hi.length; omega
  obtain N : News s.heap L' h₁ [] := News.nil
  obtain hw : Hd w := .mk
  obtain hs : Hd s := .mk
  obtain hL : Hd L' := .mk
  (revert X T hl hi hlen ret B F hn N hw hs hL; revert w s mean mg mb sc vs ns R L' h₁ E; refine eps12 (by repeat' (first | refine @instNonemptyProd _ _ ?_ ?_ | infer_instance | exact neW | exact neS)) ?_; intro X T hl hi hlen ret B F hn N hw hs hL)
  refine wpG_execs_consA ?_
  (repeat' (first | (k_unfold; (try dsimp only)) | (k_end; wrow_close) | ((with_reducible show wpAny _ _ (eval (Expr.Name _ _) _) _ _ _); first | ((k_here; (with_reducible first | (refine nmL (by first | exact nf1088.1 | exact nf1088.2.1 | exact nf1088.2.2.1 | exact nf1088.2.2.2.1 | exact nf1088.2.2.2.2.1) (by k_asm) (by k_dflt (exact Eq.refl (some _))) ?_) | (refine nmB nf1088.2.2.2.2.2.1 (bk_len _) (by k_asm) (by k_asm) (by k_asm) ?_) | (refine nmB nf1088.2.2.2.2.2.2.1 (bk_max _) (by k_asm) (by k_asm) (by k_asm) ?_) | (refine nmB nf1088.2.2.2.2.2.2.2.1 (bk_int _) (by k_asm) (by k_asm) (by k_asm) ?_) | (refine nmL (by first | exact nf1137.1 | exact nf1137.2.1 | exact nf1137.2.2.1 | exact nf1137.2.2.2.1 | exact nf1137.2.2.2.2.1 | exact nf1137.2.2.2.2.2.1 | exact nf1137.2.2.2.2.2.2.1 | exact nf1137.2.2.2.2.2.2.2.1 | exact nf1137.2.2.2.2.2.2.2.2.1 | exact nf1137.2.2.2.2.2.2.2.2.2.1 | exact nf1137.2.2.2.2.2.2.2.2.2.2.1 | exact nf1137.2.2.2.2.2.2.2.2.2.2.2.1 | exact nf1137.2.2.2.2.2.2.2.2.2.2.2.2.1 | exact nf1137.2.2.2.2.2.2.2.2.2.2.2.2.2.1) (by k_asm) (by k_dflt (exact Eq.refl (some _))) ?_) | (refine nmK nf1137.2.2.2.2.2.2.2.2.2.2.2.2.2.2.1 (gk_law_pool _) (by k_asm) (by k_asm) (by k_asm) ?_) | (refine nmK nf1137.2.2.2.2.2.2.2.2.2.2.2.2.2.2.2.1 (gk_law_limits _) (by k_asm) (by k_asm) (by k_asm) ?_) | (refine nmK nf1137.2.2.2.2.2.2.2.2.2.2.2.2.2.2.2.2.1 (gk_Limits _) (by k_asm) (by k_asm) (by k_asm) ?_) | (refine nmK nf1137.2.2.2.2.2.2.2.2.2.2.2.2.2.2.2.2.2.1 (gk_Tcb _) (by k_asm) (by k_asm) (by k_asm) ?_) | (refine nmK nf1137.2.2.2.2.2.2.2.2.2.2.2.2.2.2.2.2.2.2.1 (gk_law_take _) (by k_asm) (by k_asm) (by k_asm) ?_) | (refine nmK nf1137.2.2.2.2.2.2.2.2.2.2.2.2.2.2.2.2.2.2.2.1 (gk_law_clock_right _) (by k_asm) (by k_asm) (by k_asm) ?_) | (refine nmK nf1137.2.2.2.2.2.2.2.2.2.2.2.2.2.2.2.2.2.2.2.2.1 (gk_law_segment_right _) (by k_asm) (by k_asm) (by k_asm) ?_) | (refine nmK nf1137.2.2.2.2.2.2.2.2.2.2.2.2.2.2.2.2.2.2.2.2.2.1 (gk_law_one _) (by k_asm) (by k_asm) (by k_asm) ?_) | (refine nmK nf1137.2.2.2.2.2.2.2.2.2.2.2.2.2.2.2.2.2.2.2.2.2.2.1 (gk_Receiver _) (by k_asm) (by k_asm) (by k_asm) ?_) | (refine nmK nf1137.2.2.2.2.2.2.2.2.2.2.2.2.2.2.2.2.2.2.2.2.2.2.2.1 (gk_law_round_right _) (by k_asm) (by k_asm) (by k_asm) ?_) | (refine nmB nf1137.2.2.2.2.2.2.2.2.2.2.2.2.2.2.2.2.2.2.2.2.2.2.2.2.1 (bk_range _) (by k_asm) (by k_asm) (by k_asm) ?_))))) | ((with_reducible show wpAny _ _ (call (Value.ref _) _) _ _ _); first | (((with_reducible show wpAny _ _ (call (Value.ref 1088) _) _ _ _); k_dflt (((refine join_pool (by with_reducible assumption) (by with_reducible assumption) (wpAny_call ?_) ?_; rotate_left 1; (intro src a9 ta9 b9 tb9 n9 h9 tk9 p93 p94 p95 F9 N9 nd9); (have ND9 : (List.map (fun x : Addr × Obj => x.1) [(src, srcO a9 ta9 b9 tb9 n9)]).Nodup := by simp); clear nd9; (try k_sweep); (try dsimp only); rotate_right 1); k_enter))))) | (with_reducible refine wpAny_If ?_) | walk1 | (dsimp only; walk1) | (leave1; (try dsimp only)) | fail "no step"))
  all_goals (try dsimp only)
  (rename_i j32x1 j32x2 j32x3; revert p93 p94 p95 F9 N9 ND9 j32x2 j32x3; revert src a9 ta9 b9 tb9 n9 h9 tk9 j32x1; refine @eps9 Addr Int Tok Int Tok Nat Heap Nat Heap inferInstance _ ?_; intro p93 p94 p95 F9 N9 ND9 j32x2 j32x3)
  all_goals (refine wpG_execs_consA ?_)
  all_goals (repeat' (first | (k_unfold; (try dsimp only)) | (k_end; wrow_close) | ((with_reducible show wpAny _ _ (eval (Expr.Name _ _) _) _ _ _); first | ((k_here; (with_reducible first | (refine nmL (by first | exact nf1088.1 | exact nf1088.2.1 | exact nf1088.2.2.1 | exact nf1088.2.2.2.1 | exact nf1088.2.2.2.2.1) (by k_asm) (by k_dflt (exact Eq.refl (some _))) ?_) | (refine nmB nf1088.2.2.2.2.2.1 (bk_len _) (by k_asm) (by k_asm) (by k_asm) ?_) | (refine nmB nf1088.2.2.2.2.2.2.1 (bk_max _) (by k_asm) (by k_asm) (by k_asm) ?_) | (refine nmB nf1088.2.2.2.2.2.2.2.1 (bk_int _) (by k_asm) (by k_asm) (by k_asm) ?_) | (refine nmL (by first | exact nf1137.1 | exact nf1137.2.1 | exact nf1137.2.2.1 | exact nf1137.2.2.2.1 | exact nf1137.2.2.2.2.1 | exact nf1137.2.2.2.2.2.1 | exact nf1137.2.2.2.2.2.2.1 | exact nf1137.2.2.2.2.2.2.2.1 | exact nf1137.2.2.2.2.2.2.2.2.1 | exact nf1137.2.2.2.2.2.2.2.2.2.1 | exact nf1137.2.2.2.2.2.2.2.2.2.2.1 | exact nf1137.2.2.2.2.2.2.2.2.2.2.2.1 | exact nf1137.2.2.2.2.2.2.2.2.2.2.2.2.1 | exact nf1137.2.2.2.2.2.2.2.2.2.2.2.2.2.1) (by k_asm) (by k_dflt (exact Eq.refl (some _))) ?_) | (refine nmK nf1137.2.2.2.2.2.2.2.2.2.2.2.2.2.2.1 (gk_law_pool _) (by k_asm) (by k_asm) (by k_asm) ?_) | (refine nmK nf1137.2.2.2.2.2.2.2.2.2.2.2.2.2.2.2.1 (gk_law_limits _) (by k_asm) (by k_asm) (by k_asm) ?_) | (refine nmK nf1137.2.2.2.2.2.2.2.2.2.2.2.2.2.2.2.2.1 (gk_Limits _) (by k_asm) (by k_asm) (by k_asm) ?_) | (refine nmK nf1137.2.2.2.2.2.2.2.2.2.2.2.2.2.2.2.2.2.1 (gk_Tcb _) (by k_asm) (by k_asm) (by k_asm) ?_) | (refine nmK nf1137.2.2.2.2.2.2.2.2.2.2.2.2.2.2.2.2.2.2.1 (gk_law_take _) (by k_asm) (by k_asm) (by k_asm) ?_) | (refine nmK nf1137.2.2.2.2.2.2.2.2.2.2.2.2.2.2.2.2.2.2.2.1 (gk_law_clock_right _) (by k_asm) (by k_asm) (by k_asm) ?_) | (refine nmK nf1137.2.2.2.2.2.2.2.2.2.2.2.2.2.2.2.2.2.2.2.2.1 (gk_law_segment_right _) (by k_asm) (by k_asm) (by k_asm) ?_) | (refine nmK nf1137.2.2.2.2.2.2.2.2.2.2.2.2.2.2.2.2.2.2.2.2.2.1 (gk_law_one _) (by k_asm) (by k_asm) (by k_asm) ?_) | (refine nmK nf1137.2.2.2.2.2.2.2.2.2.2.2.2.2.2.2.2.2.2.2.2.2.2.1 (gk_Receiver _) (by k_asm) (by k_asm) (by k_asm) ?_) | (refine nmK nf1137.2.2.2.2.2.2.2.2.2.2.2.2.2.2.2.2.2.2.2.2.2.2.2.1 (gk_law_round_right _) (by k_asm) (by k_asm) (by k_asm) ?_) | (refine nmB nf1137.2.2.2.2.2.2.2.2.2.2.2.2.2.2.2.2.2.2.2.2.2.2.2.2.1 (bk_range _) (by k_asm) (by k_asm) (by k_asm) ?_))))) | ((with_reducible show wpAny _ _ (call (Value.ref _) _) _ _ _); first | (((with_reducible show wpAny _ _ (call (Value.ref 1109) _) _ _ _); k_dflt (first | ((refine Sp.use (limits_sp _ _ _ _ _ _ _ ?a1 ?a2 ?a3) (by k_asm) (by k_asm) (by k_asm) (by k_asm) (by k_asm) rfl rfl rfl rfl (nb rfl) (nb rfl) (by ktr_rel) ?znd ?_; (case znd => k_allIn); (case a1 => kaf_pre); (case a2 => kaf_pre); (case a3 => kaf_pre); k_whole); intro v9 nl9 h9 tk9 P9; obtain ⟨lx9, r1, t1, r2, t2, r3, t3, r4, t4, r5, t5, r6, t6, mm9, a9, ta9, b9, tb9, n9, rfl, hLim9, p93, p94, p95, rfl⟩ := P9; intro F9 N9 ND9; dsimp only [List.cons_append, List.nil_append] at N9 ND9; (try k_sweep); (try dsimp only); (obtain ⟨hq1, hq2, hq3, hq4, hq5, hq6, hq7, hq8, hq9, hq10, hq11, hq12⟩ := hLim9)))))) | (with_reducible refine wpAny_If ?_) | walk1 | (dsimp only; walk1) | (leave1; (try dsimp only)) | fail "no step"))
  all_goals (try dsimp only)
  (rename_i j86x1 j86x2 j86x3 j86x4 j86x5 j86x6 j86x7 j86x8 j86x9 j86x10 j86x11 j86x12 j86x13; revert p93 p94 p95 ND9 hq1 hq2 hq3 hq4 hq5 hq6 hq7 hq8 hq9 hq10 hq11 hq12 j86x12 j86x13; revert h9 tk9 lx9 r1 t1 r2 t2 r3 t3 r4 t4 r5 t5 r6 t6 mm9 a9 ta9 b9 tb9 n9 j86x5 j86x6 j86x7 j86x8 j86x9 j86x10 j86x11; refine eps28 (by repeat' (first | refine @instNonemptyProd _ _ ?_ ?_ | infer_instance)) ?_; intro p93 p94 p95 ND9 hq1 hq2 hq3 hq4 hq5 hq6 hq7 hq8 hq9 hq10 hq11 hq12 j86x12 j86x13)
  all_goals (refine wpG_execs_consA ?_)
  all_goals (repeat' (first | (k_unfold; (try dsimp only)) | (k_end; wrow_close) | ((with_reducible show wpAny _ _ (eval (Expr.Name _ _) _) _ _ _); first | ((k_here; (with_reducible first | (refine nmL (by first | exact nf1088.1 | exact nf1088.2.1 | exact nf1088.2.2.1 | exact nf1088.2.2.2.1 | exact nf1088.2.2.2.2.1) (by k_asm) (by k_dflt (exact Eq.refl (some _))) ?_) | (refine nmB nf1088.2.2.2.2.2.1 (bk_len _) (by k_asm) (by k_asm) (by k_asm) ?_) | (refine nmB nf1088.2.2.2.2.2.2.1 (bk_max _) (by k_asm) (by k_asm) (by k_asm) ?_) | (refine nmB nf1088.2.2.2.2.2.2.2.1 (bk_int _) (by k_asm) (by k_asm) (by k_asm) ?_) | (refine nmL (by first | exact nf1137.1 | exact nf1137.2.1 | exact nf1137.2.2.1 | exact nf1137.2.2.2.1 | exact nf1137.2.2.2.2.1 | exact nf1137.2.2.2.2.2.1 | exact nf1137.2.2.2.2.2.2.1 | exact nf1137.2.2.2.2.2.2.2.1 | exact nf1137.2.2.2.2.2.2.2.2.1 | exact nf1137.2.2.2.2.2.2.2.2.2.1 | exact nf1137.2.2.2.2.2.2.2.2.2.2.1 | exact nf1137.2.2.2.2.2.2.2.2.2.2.2.1 | exact nf1137.2.2.2.2.2.2.2.2.2.2.2.2.1 | exact nf1137.2.2.2.2.2.2.2.2.2.2.2.2.2.1) (by k_asm) (by k_dflt (exact Eq.refl (some _))) ?_) | (refine nmK nf1137.2.2.2.2.2.2.2.2.2.2.2.2.2.2.1 (gk_law_pool _) (by k_asm) (by k_asm) (by k_asm) ?_) | (refine nmK nf1137.2.2.2.2.2.2.2.2.2.2.2.2.2.2.2.1 (gk_law_limits _) (by k_asm) (by k_asm) (by k_asm) ?_) | (refine nmK nf1137.2.2.2.2.2.2.2.2.2.2.2.2.2.2.2.2.1 (gk_Limits _) (by k_asm) (by k_asm) (by k_asm) ?_) | (refine nmK nf1137.2.2.2.2.2.2.2.2.2.2.2.2.2.2.2.2.2.1 (gk_Tcb _) (by k_asm) (by k_asm) (by k_asm) ?_) | (refine nmK nf1137.2.2.2.2.2.2.2.2.2.2.2.2.2.2.2.2.2.2.1 (gk_law_take _) (by k_asm) (by k_asm) (by k_asm) ?_) | (refine nmK nf1137.2.2.2.2.2.2.2.2.2.2.2.2.2.2.2.2.2.2.2.1 (gk_law_clock_right _) (by k_asm) (by k_asm) (by k_asm) ?_) | (refine nmK nf1137.2.2.2.2.2.2.2.2.2.2.2.2.2.2.2.2.2.2.2.2.1 (gk_law_segment_right _) (by k_asm) (by k_asm) (by k_asm) ?_) | (refine nmK nf1137.2.2.2.2.2.2.2.2.2.2.2.2.2.2.2.2.2.2.2.2.2.1 (gk_law_one _) (by k_asm) (by k_asm) (by k_asm) ?_) | (refine nmK nf1137.2.2.2.2.2.2.2.2.2.2.2.2.2.2.2.2.2.2.2.2.2.2.1 (gk_Receiver _) (by k_asm) (by k_asm) (by k_asm) ?_) | (refine nmK nf1137.2.2.2.2.2.2.2.2.2.2.2.2.2.2.2.2.2.2.2.2.2.2.2.1 (gk_law_round_right _) (by k_asm) (by k_asm) (by k_asm) ?_) | (refine nmB nf1137.2.2.2.2.2.2.2.2.2.2.2.2.2.2.2.2.2.2.2.2.2.2.2.2.1 (bk_range _) (by k_asm) (by k_asm) (by k_asm) ?_))))) | ((with_reducible show wpAny _ _ (call (Value.ref _) _) _ _ _); first | (((with_reducible show wpAny _ _ (call (Value.ref 804) _) _ _ _); k_dflt (first | ((refine Sp.use (limcls_sp _ _ _ _ _ _ _ _ _ _ _ _ _ _ _ _ _) (by k_asm) (by k_asm) (by k_asm) (by k_asm) (by k_asm) rfl rfl rfl rfl (nb rfl) (nb rfl) (by ktr_rel) ?znd ?_; (case znd => k_allIn);  k_whole); intro v9 nl9 h9 tk9 P9; obtain ⟨lm9, ld9, oM9, rfl, hM9, rfl⟩ := P9; intro F9 N9 ND9; dsimp only [List.cons_append, List.nil_append] at N9 ND9; (try k_sweep); (try dsimp only)))))) | (with_reducible refine wpAny_If ?_) | walk1 | (dsimp only; walk1) | (leave1; (try dsimp only)) | fail "no step"))
  all_goals (try dsimp only)
  (rename_i j53x1 j53x2 j53x3 j53x4; revert hM9 ND9 j53x3 j53x4; revert h9 tk9 lm9 ld9 oM9 j53x2; refine @eps6 Heap Nat Addr Addr Obj Heap inferInstance _ ?_; intro hM9 ND9 j53x3 j53x4)
  all_goals (refine wpG_execs_consA ?_)
  all_goals (repeat' (first | (k_unfold; (try dsimp only)) | (k_end; wrow_close) | ((with_reducible show wpAny _ _ (eval (Expr.Name _ _) _) _ _ _); first | ((k_here; (with_reducible first | (refine nmL (by first | exact nf1088.1 | exact nf1088.2.1 | exact nf1088.2.2.1 | exact nf1088.2.2.2.1 | exact nf1088.2.2.2.2.1) (by k_asm) (by k_dflt (exact Eq.refl (some _))) ?_) | (refine nmB nf1088.2.2.2.2.2.1 (bk_len _) (by k_asm) (by k_asm) (by k_asm) ?_) | (refine nmB nf1088.2.2.2.2.2.2.1 (bk_max _) (by k_asm) (by k_asm) (by k_asm) ?_) | (refine nmB nf1088.2.2.2.2.2.2.2.1 (bk_int _) (by k_asm) (by k_asm) (by k_asm) ?_) | (refine nmL (by first | exact nf1137.1 | exact nf1137.2.1 | exact nf1137.2.2.1 | exact nf1137.2.2.2.1 | exact nf1137.2.2.2.2.1 | exact nf1137.2.2.2.2.2.1 | exact nf1137.2.2.2.2.2.2.1 | exact nf1137.2.2.2.2.2.2.2.1 | exact nf1137.2.2.2.2.2.2.2.2.1 | exact nf1137.2.2.2.2.2.2.2.2.2.1 | exact nf1137.2.2.2.2.2.2.2.2.2.2.1 | exact nf1137.2.2.2.2.2.2.2.2.2.2.2.1 | exact nf1137.2.2.2.2.2.2.2.2.2.2.2.2.1 | exact nf1137.2.2.2.2.2.2.2.2.2.2.2.2.2.1) (by k_asm) (by k_dflt (exact Eq.refl (some _))) ?_) | (refine nmK nf1137.2.2.2.2.2.2.2.2.2.2.2.2.2.2.1 (gk_law_pool _) (by k_asm) (by k_asm) (by k_asm) ?_) | (refine nmK nf1137.2.2.2.2.2.2.2.2.2.2.2.2.2.2.2.1 (gk_law_limits _) (by k_asm) (by k_asm) (by k_asm) ?_) | (refine nmK nf1137.2.2.2.2.2.2.2.2.2.2.2.2.2.2.2.2.1 (gk_Limits _) (by k_asm) (by k_asm) (by k_asm) ?_) | (refine nmK nf1137.2.2.2.2.2.2.2.2.2.2.2.2.2.2.2.2.2.1 (gk_Tcb _) (by k_asm) (by k_asm) (by k_asm) ?_) | (refine nmK nf1137.2.2.2.2.2.2.2.2.2.2.2.2.2.2.2.2.2.2.1 (gk_law_take _) (by k_asm) (by k_asm) (by k_asm) ?_) | (refine nmK nf1137.2.2.2.2.2.2.2.2.2.2.2.2.2.2.2.2.2.2.2.1 (gk_law_clock_right _) (by k_asm) (by k_asm) (by k_asm) ?_) | (refine nmK nf1137.2.2.2.2.2.2.2.2.2.2.2.2.2.2.2.2.2.2.2.2.1 (gk_law_segment_right _) (by k_asm) (by k_asm) (by k_asm) ?_) | (refine nmK nf1137.2.2.2.2.2.2.2.2.2.2.2.2.2.2.2.2.2.2.2.2.2.1 (gk_law_one _) (by k_asm) (by k_asm) (by k_asm) ?_) | (refine nmK nf1137.2.2.2.2.2.2.2.2.2.2.2.2.2.2.2.2.2.2.2.2.2.2.1 (gk_Receiver _) (by k_asm) (by k_asm) (by k_asm) ?_) | (refine nmK nf1137.2.2.2.2.2.2.2.2.2.2.2.2.2.2.2.2.2.2.2.2.2.2.2.1 (gk_law_round_right _) (by k_asm) (by k_asm) (by k_asm) ?_) | (refine nmB nf1137.2.2.2.2.2.2.2.2.2.2.2.2.2.2.2.2.2.2.2.2.2.2.2.2.1 (bk_range _) (by k_asm) (by k_asm) (by k_asm) ?_))))) | ((with_reducible show wpAny _ _ (call (Value.ref _) _) _ _ _); first | (((with_reducible show wpAny _ _ (call (Value.ref 847) _) _ _ _); k_dflt (first | ((refine Sp.use (tcb_sp _ _ _ _ _ _ _ _ _ _ _ _ _ _ (by with_reducible assumption) ?a1 ?a2) (by k_asm) (by k_asm) (by k_asm) (by k_asm) (by k_asm) rfl rfl rfl rfl (nb rfl) (nb rfl) (by ktr_rel) ?znd ?_; (case znd => k_allIn); (case a1 => kaf_pre); (case a2 => kaf_pre); k_whole); intro v9 nl9 h9 tk9 P9; obtain ⟨tc9, td9, ac9, ad9, wh9, wd9, sl9, s29, s129, lt9, en9, a39, a19, oT9, oA9, oW9, oS9, o29, o129, oL9, oE9, oA39, oA19, rfl, hT9, hA9, hW9, rfl⟩ := P9; intro F9 N9 ND9; dsimp only [List.cons_append, List.nil_append] at N9 ND9; (try k_sweep); (try dsimp only); (have hWI9 : WIn _ wh9 wd9 sl9 s29 s129 lt9 en9 a39 a19 oW9 oS9 o29 o129 oL9 oE9 oA39 oA19 := Or.inl hW9))))) | (((with_reducible show wpAny _ _ (call (Value.ref 1095) _) _ _ _); k_dflt (first | ((refine Sp.use (take_sp _ _ _ _ _ _ _ _ _ ?a1 ?a2 ?a3 ?a4 ?a5) (by k_asm) (by k_asm) (by k_asm) (by k_asm) (by k_asm) rfl rfl rfl rfl (nb rfl) (nb rfl) (by ktr_rel) ?znd ?_; (case znd => k_allIn); (case a1 => kaf_pre); (case a2 => kaf_pre); (case a3 => kaf_pre); (case a4 => kaf_pre); (case a5 => kaf_pre); k_whole); intro v9 nl9 h9 tk9 P9; obtain ⟨k9, t9, a9, ta9, b9, tb9, n9, rfl, p91, p92, p93, p94, p95, rfl⟩ := P9; intro F9 N9 ND9; dsimp only [List.cons_append, List.nil_append] at N9 ND9; (try k_sweep); (try dsimp only)))))) | (with_reducible refine wpAny_If ?_) | walk1 | (dsimp only; walk1) | (leave1; (try dsimp only)) | fail "no step"))
  all_goals (try dsimp only)
  obtain ⟨ut0Z, rfl⟩ := id hT9
  (rename_i j112x1 j112x2 j112x3 j112x4 j112x5 j112x6 j112x7 j112x8 j112x9 j112x10 j112x11 j112x12 j112x13 j112x14; revert j112x7 j112x8 p91 p92 p93 p94 p95 j112x11 hA9 hW9 hWI9 j112x13 hT9 ND9 j112x14; revert j112x5 j112x6 D' h' j112x9 j112x10 k9 t9 a9 ta9 b9 tb9 n9 h9 tk9 tc9 td9 ac9 ad9 wh9 wd9 sl9 s29 s129 lt9 en9 a39 a19 oA9 oW9 oS9 o29 o129 oL9 oE9 oA39 oA19 j112x12 ut0Z; (iterate 2 (refine dum ?_)); refine eps41 (by repeat' (first | refine @instNonemptyProd _ _ ?_ ?_ | infer_instance | exact neTcZ)) ?_; intro j112x7 j112x8 p91 p92 p93 p94 p95 j112x11 hA9 hW9 hWI9 j112x13 hT9 ND9 j112x14)
  all_goals (refine wpG_execs_consA ?_)
  all_goals (repeat' (first | (k_unfold; (try dsimp only)) | (k_end; wrow_close) | ((with_reducible show wpAny _ _ (eval (Expr.Name _ _) _) _ _ _); first | ((k_here; (with_reducible first | (refine nmL (by first | exact nf1088.1 | exact nf1088.2.1 | exact nf1088.2.2.1 | exact nf1088.2.2.2.1 | exact nf1088.2.2.2.2.1) (by k_asm) (by k_dflt (exact Eq.refl (some _))) ?_) | (refine nmB nf1088.2.2.2.2.2.1 (bk_len _) (by k_asm) (by k_asm) (by k_asm) ?_) | (refine nmB nf1088.2.2.2.2.2.2.1 (bk_max _) (by k_asm) (by k_asm) (by k_asm) ?_) | (refine nmB nf1088.2.2.2.2.2.2.2.1 (bk_int _) (by k_asm) (by k_asm) (by k_asm) ?_) | (refine nmL (by first | exact nf1137.1 | exact nf1137.2.1 | exact nf1137.2.2.1 | exact nf1137.2.2.2.1 | exact nf1137.2.2.2.2.1 | exact nf1137.2.2.2.2.2.1 | exact nf1137.2.2.2.2.2.2.1 | exact nf1137.2.2.2.2.2.2.2.1 | exact nf1137.2.2.2.2.2.2.2.2.1 | exact nf1137.2.2.2.2.2.2.2.2.2.1 | exact nf1137.2.2.2.2.2.2.2.2.2.2.1 | exact nf1137.2.2.2.2.2.2.2.2.2.2.2.1 | exact nf1137.2.2.2.2.2.2.2.2.2.2.2.2.1 | exact nf1137.2.2.2.2.2.2.2.2.2.2.2.2.2.1) (by k_asm) (by k_dflt (exact Eq.refl (some _))) ?_) | (refine nmK nf1137.2.2.2.2.2.2.2.2.2.2.2.2.2.2.1 (gk_law_pool _) (by k_asm) (by k_asm) (by k_asm) ?_) | (refine nmK nf1137.2.2.2.2.2.2.2.2.2.2.2.2.2.2.2.1 (gk_law_limits _) (by k_asm) (by k_asm) (by k_asm) ?_) | (refine nmK nf1137.2.2.2.2.2.2.2.2.2.2.2.2.2.2.2.2.1 (gk_Limits _) (by k_asm) (by k_asm) (by k_asm) ?_) | (refine nmK nf1137.2.2.2.2.2.2.2.2.2.2.2.2.2.2.2.2.2.1 (gk_Tcb _) (by k_asm) (by k_asm) (by k_asm) ?_) | (refine nmK nf1137.2.2.2.2.2.2.2.2.2.2.2.2.2.2.2.2.2.2.1 (gk_law_take _) (by k_asm) (by k_asm) (by k_asm) ?_) | (refine nmK nf1137.2.2.2.2.2.2.2.2.2.2.2.2.2.2.2.2.2.2.2.1 (gk_law_clock_right _) (by k_asm) (by k_asm) (by k_asm) ?_) | (refine nmK nf1137.2.2.2.2.2.2.2.2.2.2.2.2.2.2.2.2.2.2.2.2.1 (gk_law_segment_right _) (by k_asm) (by k_asm) (by k_asm) ?_) | (refine nmK nf1137.2.2.2.2.2.2.2.2.2.2.2.2.2.2.2.2.2.2.2.2.2.1 (gk_law_one _) (by k_asm) (by k_asm) (by k_asm) ?_) | (refine nmK nf1137.2.2.2.2.2.2.2.2.2.2.2.2.2.2.2.2.2.2.2.2.2.2.1 (gk_Receiver _) (by k_asm) (by k_asm) (by k_asm) ?_) | (refine nmK nf1137.2.2.2.2.2.2.2.2.2.2.2.2.2.2.2.2.2.2.2.2.2.2.2.1 (gk_law_round_right _) (by k_asm) (by k_asm) (by k_asm) ?_) | (refine nmB nf1137.2.2.2.2.2.2.2.2.2.2.2.2.2.2.2.2.2.2.2.2.2.2.2.2.1 (bk_range _) (by k_asm) (by k_asm) (by k_asm) ?_))))) | (with_reducible refine wpAny_If ?_) | walk1 | (dsimp only; walk1) | (leave1; (try dsimp only)) | fail "no step"))
  all_goals (try dsimp only)
  have hb9 : @Ne Nat bk 1 := by simpa [sysModules] using lob
  with_reducible rename Obj.IsDictOf (PySem.strKind _ _) _ _ => hd9
  try dsimp only at hd9
  try kob_lit
  have hBk : BkD _ _ _ _ .none 0 0 _ := ⟨_, _, _, _, _, hd9⟩
  all_goals (refine wpG_execs_consA ?_)
  all_goals (repeat' (first | (k_unfold; (try dsimp only)) | (k_end; wrow_close) | ((with_reducible show wpAny _ _ (eval (Expr.Name _ _) _) _ _ _); first | ((k_here; (with_reducible first | (refine nmL (by first | exact nf1088.1 | exact nf1088.2.1 | exact nf1088.2.2.1 | exact nf1088.2.2.2.1 | exact nf1088.2.2.2.2.1) (by k_asm) (by k_dflt (exact Eq.refl (some _))) ?_) | (refine nmB nf1088.2.2.2.2.2.1 (bk_len _) (by k_asm) (by k_asm) (by k_asm) ?_) | (refine nmB nf1088.2.2.2.2.2.2.1 (bk_max _) (by k_asm) (by k_asm) (by k_asm) ?_) | (refine nmB nf1088.2.2.2.2.2.2.2.1 (bk_int _) (by k_asm) (by k_asm) (by k_asm) ?_) | (refine nmL (by first | exact nf1137.1 | exact nf1137.2.1 | exact nf1137.2.2.1 | exact nf1137.2.2.2.1 | exact nf1137.2.2.2.2.1 | exact nf1137.2.2.2.2.2.1 | exact nf1137.2.2.2.2.2.2.1 | exact nf1137.2.2.2.2.2.2.2.1 | exact nf1137.2.2.2.2.2.2.2.2.1 | exact nf1137.2.2.2.2.2.2.2.2.2.1 | exact nf1137.2.2.2.2.2.2.2.2.2.2.1 | exact nf1137.2.2.2.2.2.2.2.2.2.2.2.1 | exact nf1137.2.2.2.2.2.2.2.2.2.2.2.2.1 | exact nf1137.2.2.2.2.2.2.2.2.2.2.2.2.2.1) (by k_asm) (by k_dflt (exact Eq.refl (some _))) ?_) | (refine nmK nf1137.2.2.2.2.2.2.2.2.2.2.2.2.2.2.1 (gk_law_pool _) (by k_asm) (by k_asm) (by k_asm) ?_) | (refine nmK nf1137.2.2.2.2.2.2.2.2.2.2.2.2.2.2.2.1 (gk_law_limits _) (by k_asm) (by k_asm) (by k_asm) ?_) | (refine nmK nf1137.2.2.2.2.2.2.2.2.2.2.2.2.2.2.2.2.1 (gk_Limits _) (by k_asm) (by k_asm) (by k_asm) ?_) | (refine nmK nf1137.2.2.2.2.2.2.2.2.2.2.2.2.2.2.2.2.2.1 (gk_Tcb _) (by k_asm) (by k_asm) (by k_asm) ?_) | (refine nmK nf1137.2.2.2.2.2.2.2.2.2.2.2.2.2.2.2.2.2.2.1 (gk_law_take _) (by k_asm) (by k_asm) (by k_asm) ?_) | (refine nmK nf1137.2.2.2.2.2.2.2.2.2.2.2.2.2.2.2.2.2.2.2.1 (gk_law_clock_right _) (by k_asm) (by k_asm) (by k_asm) ?_) | (refine nmK nf1137.2.2.2.2.2.2.2.2.2.2.2.2.2.2.2.2.2.2.2.2.1 (gk_law_segment_right _) (by k_asm) (by k_asm) (by k_asm) ?_) | (refine nmK nf1137.2.2.2.2.2.2.2.2.2.2.2.2.2.2.2.2.2.2.2.2.2.1 (gk_law_one _) (by k_asm) (by k_asm) (by k_asm) ?_) | (refine nmK nf1137.2.2.2.2.2.2.2.2.2.2.2.2.2.2.2.2.2.2.2.2.2.2.1 (gk_Receiver _) (by k_asm) (by k_asm) (by k_asm) ?_) | (refine nmK nf1137.2.2.2.2.2.2.2.2.2.2.2.2.2.2.2.2.2.2.2.2.2.2.2.1 (gk_law_round_right _) (by k_asm) (by k_asm) (by k_asm) ?_) | (refine nmB nf1137.2.2.2.2.2.2.2.2.2.2.2.2.2.2.2.2.2.2.2.2.2.2.2.2.1 (bk_range _) (by k_asm) (by k_asm) (by k_asm) ?_))))) | ((with_reducible show wpAny _ _ (call (Value.ref _) _) _ _ _); first | (((with_reducible show wpAny _ _ (call (Value.ref 1116) _) _ _ _); k_dflt (first | ((refine Sp.use (clkright_sp _ _ _ _ _ _ _ _ _ _ _ _ _ (by with_reducible assumption) ?a1 ?a2 ?a3 ?a4 ?a5 ?a6) (by k_asm) (by k_asm) (by k_asm) (by k_asm) (by k_asm) rfl rfl rfl rfl (nb rfl) (nb rfl) (by ktr_rel) ?znd ?_; (case znd => k_allIn); (case a1 => kaf_pre); (case a2 => kaf_pre); (case a3 => kaf_pre); (case a4 => kaf_pre); (case a5 => kaf_pre); (case a6 => kaf_pre); k_whole); intro v9 nl9 h9 tk9 P9; obtain ⟨rfl, rfl⟩ := P9; intro F9 N9 ND9; dsimp only [List.cons_append, List.nil_append] at N9 ND9; (try k_sweep); (try dsimp only)))))) | (with_reducible refine wpAny_If ?_) | walk1 | (dsimp only; walk1) | (leave1; (try dsimp only)) | fail "no step"))
  all_goals (try dsimp only)
  all_goals (refine wpG_execs_consA ?_)
  all_goals (repeat' (first | (k_unfold; (try dsimp only)) | (k_end; wrow_close) | ((with_reducible show wpAny _ _ (call (Value.ref _) _) _ _ _); first | (((with_reducible show wpAny _ _ (call (Value.ref 1123) _) _ _ _); k_dflt (first | ((refine Sp.use (segN_sp _ _ _ _ _ _ _ _ _ _ _ _ _ _ _ _ _ _ _ _ _ _ _ _ _ _ _ _ _ _ _ _ _ _ _ _ _ _ _ _ _ _ _ _ _ _ _ _ _ _ (by with_reducible assumption) (by with_reducible assumption) (by with_reducible assumption) (by with_reducible assumption) (by with_reducible assumption) (by with_reducible assumption) (by with_reducible assumption) (by with_reducible assumption) (by with_reducible assumption) (by with_reducible assumption) (by unfold FlOk; decide)) (by k_asm) (by k_asm) (by k_asm) (by k_asm) (by k_asm) rfl rfl rfl rfl (nb rfl) (nb rfl) (by ktr_rel) ?znd ?_; (case znd => k_allIn);  k_whole); intro v9 nl9 h9 tk9 P9; obtain ⟨oA9, a39, a19, oW9, o29, o129, oL9, oE9, oA39, oA19, rfl, hA9, hW9, rfl⟩ := P9; intro F9 N9 ND9; dsimp only [List.cons_append, List.nil_append] at N9 ND9; (try k_sweep); (try dsimp only))))) | (((with_reducible show wpAny _ _ (call (Value.ref 1095) _) _ _ _); k_dflt (first | ((refine Sp.use (take_sp _ _ _ _ _ _ _ _ _ ?a1 ?a2 ?a3 ?a4 ?a5) (by k_asm) (by k_asm) (by k_asm) (by k_asm) (by k_asm) rfl rfl rfl rfl (nb rfl) (nb rfl) (by ktr_rel) ?znd ?_; (case znd => k_allIn); (case a1 => kaf_pre); (case a2 => kaf_pre); (case a3 => kaf_pre); (case a4 => kaf_pre); (case a5 => kaf_pre); k_whole); intro v9 nl9 h9 tk9 P9; obtain ⟨k9, t9, a9, ta9, b9, tb9, n9, rfl, p91, p92, p93, p94, p95, rfl⟩ := P9; intro F9 N9 ND9; dsimp only [List.cons_append, List.nil_append] at N9 ND9; (try k_sweep); (try dsimp only)))))) | (with_reducible refine wpAny_If ?_) | walk1 | (dsimp only; walk1) | (leave1; (try dsimp only)) | fail "no step"))
  all_goals (try dsimp only)
  with_reducible rename News _ _ _ _ => hh
  have ND9 := nd_of hh (by (have nd9 := ND9); dsimp only [mapc, mapn] at nd9 ⊢; exact nd_pickA nd9 (by ktr_rel))
  all_goals (refine wpG_execs_consA ?_)
  all_goals (repeat' (first | (k_unfold; (try dsimp only)) | (k_end; wrow_close) | ((with_reducible show wpAny _ _ (call (Value.ref _) _) _ _ _); first | (((with_reducible show wpAny _ _ (call (Value.ref 1102) _) _ _ _); k_dflt (first | ((refine Sp.use (one_sp _ _ _ _ _ _ _ _ _ _ ?a1 ?a2 ?a3 ?a4 ?a5) (by k_asm) (by k_asm) (by k_asm) (by k_asm) (by k_asm) rfl rfl rfl rfl (nb rfl) (nb rfl) (by ktr_rel) ?znd ?_; (case znd => k_allIn); (case a1 => kaf_pre); (case a2 => kaf_pre); (case a3 => kaf_pre); (case a4 => kaf_pre); (case a5 => kaf_pre); k_whole); intro v9 nl9 h9 tk9 P9; obtain ⟨a9, ta9, b9, tb9, n9, p91, p93, p94, p95, rfl⟩ := P9; intro F9 N9 ND9; dsimp only [List.cons_append, List.nil_append] at N9 ND9; (try k_sweep); (try dsimp only); (first | (obtain ⟨k9, t9, rfl, q9⟩ := mem2 p91) | (obtain ⟨k9, t9, rfl, q9⟩ := mem3 p91) | (obtain ⟨k9, t9, rfl, q9⟩ := mem4 p91) | (obtain ⟨k9, t9, rfl, q9⟩ := mem7 p91)); clear p91))))) | (with_reducible refine wpAny_If ?_) | walk1 | (dsimp only; walk1) | (leave1; (try dsimp only)) | fail "no step"))
  all_goals (try dsimp only)
  refine wpG_execs_cons (wpG_Assign_Attribute (wpG_Call ?_))
  (repeat' (first | (k_unfold; (try dsimp only)) | (k_end; wrow_close) | ((with_reducible show wpAny _ _ (eval (Expr.Name _ _) _) _ _ _); first | ((k_here; (with_reducible first | (refine nmL (by first | exact nf1088.1 | exact nf1088.2.1 | exact nf1088.2.2.1 | exact nf1088.2.2.2.1 | exact nf1088.2.2.2.2.1) (by k_asm) (by k_dflt (exact Eq.refl (some _))) ?_) | (refine nmB nf1088.2.2.2.2.2.1 (bk_len _) (by k_asm) (by k_asm) (by k_asm) ?_) | (refine nmB nf1088.2.2.2.2.2.2.1 (bk_max _) (by k_asm) (by k_asm) (by k_asm) ?_) | (refine nmB nf1088.2.2.2.2.2.2.2.1 (bk_int _) (by k_asm) (by k_asm) (by k_asm) ?_) | (refine nmL (by first | exact nf1137.1 | exact nf1137.2.1 | exact nf1137.2.2.1 | exact nf1137.2.2.2.1 | exact nf1137.2.2.2.2.1 | exact nf1137.2.2.2.2.2.1 | exact nf1137.2.2.2.2.2.2.1 | exact nf1137.2.2.2.2.2.2.2.1 | exact nf1137.2.2.2.2.2.2.2.2.1 | exact nf1137.2.2.2.2.2.2.2.2.2.1 | exact nf1137.2.2.2.2.2.2.2.2.2.2.1 | exact nf1137.2.2.2.2.2.2.2.2.2.2.2.1 | exact nf1137.2.2.2.2.2.2.2.2.2.2.2.2.1 | exact nf1137.2.2.2.2.2.2.2.2.2.2.2.2.2.1) (by k_asm) (by k_dflt (exact Eq.refl (some _))) ?_) | (refine nmK nf1137.2.2.2.2.2.2.2.2.2.2.2.2.2.2.1 (gk_law_pool _) (by k_asm) (by k_asm) (by k_asm) ?_) | (refine nmK nf1137.2.2.2.2.2.2.2.2.2.2.2.2.2.2.2.1 (gk_law_limits _) (by k_asm) (by k_asm) (by k_asm) ?_) | (refine nmK nf1137.2.2.2.2.2.2.2.2.2.2.2.2.2.2.2.2.1 (gk_Limits _) (by k_asm) (by k_asm) (by k_asm) ?_) | (refine nmK nf1137.2.2.2.2.2.2.2.2.2.2.2.2.2.2.2.2.2.1 (gk_Tcb _) (by k_asm) (by k_asm) (by k_asm) ?_) | (refine nmK nf1137.2.2.2.2.2.2.2.2.2.2.2.2.2.2.2.2.2.2.1 (gk_law_take _) (by k_asm) (by k_asm) (by k_asm) ?_) | (refine nmK nf1137.2.2.2.2.2.2.2.2.2.2.2.2.2.2.2.2.2.2.2.1 (gk_law_clock_right _) (by k_asm) (by k_asm) (by k_asm) ?_) | (refine nmK nf1137.2.2.2.2.2.2.2.2.2.2.2.2.2.2.2.2.2.2.2.2.1 (gk_law_segment_right _) (by k_asm) (by k_asm) (by k_asm) ?_) | (refine nmK nf1137.2.2.2.2.2.2.2.2.2.2.2.2.2.2.2.2.2.2.2.2.2.1 (gk_law_one _) (by k_asm) (by k_asm) (by k_asm) ?_) | (refine nmK nf1137.2.2.2.2.2.2.2.2.2.2.2.2.2.2.2.2.2.2.2.2.2.2.1 (gk_Receiver _) (by k_asm) (by k_asm) (by k_asm) ?_) | (refine nmK nf1137.2.2.2.2.2.2.2.2.2.2.2.2.2.2.2.2.2.2.2.2.2.2.2.1 (gk_law_round_right _) (by k_asm) (by k_asm) (by k_asm) ?_) | (refine nmB nf1137.2.2.2.2.2.2.2.2.2.2.2.2.2.2.2.2.2.2.2.2.2.2.2.2.1 (bk_range _) (by k_asm) (by k_asm) (by k_asm) ?_))))) | (with_reducible refine wpAny_If ?_) | walk1 | (dsimp only; walk1) | (leave1; (try dsimp only)) | fail "no step"))
  all_goals (try dsimp only)
  refine wpG_callK1 (L := hL.x) (m := fun _ => none) X (by k_is) ?_
  (repeat' (first | (k_unfold; (try dsimp only)) | (k_end; wrow_close) | ((with_reducible show wpAny _ _ (eval (Expr.Name _ _) _) _ _ _); first | ((k_here; (with_reducible first | (refine nmL (by first | exact nf1088.1 | exact nf1088.2.1 | exact nf1088.2.2.1 | exact nf1088.2.2.2.1 | exact nf1088.2.2.2.2.1) (by k_asm) (by k_dflt (exact Eq.refl (some _))) ?_) | (refine nmB nf1088.2.2.2.2.2.1 (bk_len _) (by k_asm) (by k_asm) (by k_asm) ?_) | (refine nmB nf1088.2.2.2.2.2.2.1 (bk_max _) (by k_asm) (by k_asm) (by k_asm) ?_) | (refine nmB nf1088.2.2.2.2.2.2.2.1 (bk_int _) (by k_asm) (by k_asm) (by k_asm) ?_) | (refine nmL (by first | exact nf1137.1 | exact nf1137.2.1 | exact nf1137.2.2.1 | exact nf1137.2.2.2.1 | exact nf1137.2.2.2.2.1 | exact nf1137.2.2.2.2.2.1 | exact nf1137.2.2.2.2.2.2.1 | exact nf1137.2.2.2.2.2.2.2.1 | exact nf1137.2.2.2.2.2.2.2.2.1 | exact nf1137.2.2.2.2.2.2.2.2.2.1 | exact nf1137.2.2.2.2.2.2.2.2.2.2.1 | exact nf1137.2.2.2.2.2.2.2.2.2.2.2.1 | exact nf1137.2.2.2.2.2.2.2.2.2.2.2.2.1 | exact nf1137.2.2.2.2.2.2.2.2.2.2.2.2.2.1) (by k_asm) (by k_dflt (exact Eq.refl (some _))) ?_) | (refine nmK nf1137.2.2.2.2.2.2.2.2.2.2.2.2.2.2.1 (gk_law_pool _) (by k_asm) (by k_asm) (by k_asm) ?_) | (refine nmK nf1137.2.2.2.2.2.2.2.2.2.2.2.2.2.2.2.1 (gk_law_limits _) (by k_asm) (by k_asm) (by k_asm) ?_) | (refine nmK nf1137.2.2.2.2.2.2.2.2.2.2.2.2.2.2.2.2.1 (gk_Limits _) (by k_asm) (by k_asm) (by k_asm) ?_) | (refine nmK nf1137.2.2.2.2.2.2.2.2.2.2.2.2.2.2.2.2.2.1 (gk_Tcb _) (by k_asm) (by k_asm) (by k_asm) ?_) | (refine nmK nf1137.2.2.2.2.2.2.2.2.2.2.2.2.2.2.2.2.2.2.1 (gk_law_take _) (by k_asm) (by k_asm) (by k_asm) ?_) | (refine nmK nf1137.2.2.2.2.2.2.2.2.2.2.2.2.2.2.2.2.2.2.2.1 (gk_law_clock_right _) (by k_asm) (by k_asm) (by k_asm) ?_) | (refine nmK nf1137.2.2.2.2.2.2.2.2.2.2.2.2.2.2.2.2.2.2.2.2.1 (gk_law_segment_right _) (by k_asm) (by k_asm) (by k_asm) ?_) | (refine nmK nf1137.2.2.2.2.2.2.2.2.2.2.2.2.2.2.2.2.2.2.2.2.2.1 (gk_law_one _) (by k_asm) (by k_asm) (by k_asm) ?_) | (refine nmK nf1137.2.2.2.2.2.2.2.2.2.2.2.2.2.2.2.2.2.2.2.2.2.2.1 (gk_Receiver _) (by k_asm) (by k_asm) (by k_asm) ?_) | (refine nmK nf1137.2.2.2.2.2.2.2.2.2.2.2.2.2.2.2.2.2.2.2.2.2.2.2.1 (gk_law_round_right _) (by k_asm) (by k_asm) (by k_asm) ?_) | (refine nmB nf1137.2.2.2.2.2.2.2.2.2.2.2.2.2.2.2.2.2.2.2.2.2.2.2.2.1 (bk_range _) (by k_asm) (by k_asm) (by k_asm) ?_))))) | (with_reducible refine wpAny_If ?_) | walk1 | (dsimp only; walk1) | (leave1; (try dsimp only)) | fail "no step"))
  all_goals (try dsimp only)
  with_reducible rename Fr _ _ _ _ => hf
  with_reducible rename News _ _ _ _ => hh
  refine SpG.useP B hf X hh T rfl rfl rfl rfl (by ktr_rel) ?znd (rccls_sp _ _ _ _ _ _ _ _ _ hq1) (nb rfl) (nb rfl) ?_
  case znd => k_allIn
  intro v9 nl9 h9 tk9 P9 F9 N9 ND9
  obtain ⟨rc, rd, S, am, amd, pl, oR, j1, j2, j3, n, rfl, hR, rfl⟩ := P9
  clear hf hh
  dsimp only [List.cons_append, List.nil_append] at N9 ND9
  try dsimp only
  (repeat' (first | (k_unfold; (try dsimp only)) | (k_end; wrow_close) | ((with_reducible show wpAny _ _ (eval (Expr.Name _ _) _) _ _ _); first | ((k_here; (with_reducible first | (refine nmL (by first | exact nf1088.1 | exact nf1088.2.1 | exact nf1088.2.2.1 | exact nf1088.2.2.2.1 | exact nf1088.2.2.2.2.1) (by k_asm) (by k_dflt (exact Eq.refl (some _))) ?_) | (refine nmB nf1088.2.2.2.2.2.1 (bk_len _) (by k_asm) (by k_asm) (by k_asm) ?_) | (refine nmB nf1088.2.2.2.2.2.2.1 (bk_max _) (by k_asm) (by k_asm) (by k_asm) ?_) | (refine nmB nf1088.2.2.2.2.2.2.2.1 (bk_int _) (by k_asm) (by k_asm) (by k_asm) ?_) | (refine nmL (by first | exact nf1137.1 | exact nf1137.2.1 | exact nf1137.2.2.1 | exact nf1137.2.2.2.1 | exact nf1137.2.2.2.2.1 | exact nf1137.2.2.2.2.2.1 | exact nf1137.2.2.2.2.2.2.1 | exact nf1137.2.2.2.2.2.2.2.1 | exact nf1137.2.2.2.2.2.2.2.2.1 | exact nf1137.2.2.2.2.2.2.2.2.2.1 | exact nf1137.2.2.2.2.2.2.2.2.2.2.1 | exact nf1137.2.2.2.2.2.2.2.2.2.2.2.1 | exact nf1137.2.2.2.2.2.2.2.2.2.2.2.2.1 | exact nf1137.2.2.2.2.2.2.2.2.2.2.2.2.2.1) (by k_asm) (by k_dflt (exact Eq.refl (some _))) ?_) | (refine nmK nf1137.2.2.2.2.2.2.2.2.2.2.2.2.2.2.1 (gk_law_pool _) (by k_asm) (by k_asm) (by k_asm) ?_) | (refine nmK nf1137.2.2.2.2.2.2.2.2.2.2.2.2.2.2.2.1 (gk_law_limits _) (by k_asm) (by k_asm) (by k_asm) ?_) | (refine nmK nf1137.2.2.2.2.2.2.2.2.2.2.2.2.2.2.2.2.1 (gk_Limits _) (by k_asm) (by k_asm) (by k_asm) ?_) | (refine nmK nf1137.2.2.2.2.2.2.2.2.2.2.2.2.2.2.2.2.2.1 (gk_Tcb _) (by k_asm) (by k_asm) (by k_asm) ?_) | (refine nmK nf1137.2.2.2.2.2.2.2.2.2.2.2.2.2.2.2.2.2.2.1 (gk_law_take _) (by k_asm) (by k_asm) (by k_asm) ?_) | (refine nmK nf1137.2.2.2.2.2.2.2.2.2.2.2.2.2.2.2.2.2.2.2.1 (gk_law_clock_right _) (by k_asm) (by k_asm) (by k_asm) ?_) | (refine nmK nf1137.2.2.2.2.2.2.2.2.2.2.2.2.2.2.2.2.2.2.2.2.1 (gk_law_segment_right _) (by k_asm) (by k_asm) (by k_asm) ?_) | (refine nmK nf1137.2.2.2.2.2.2.2.2.2.2.2.2.2.2.2.2.2.2.2.2.2.1 (gk_law_one _) (by k_asm) (by k_asm) (by k_asm) ?_) | (refine nmK nf1137.2.2.2.2.2.2.2.2.2.2.2.2.2.2.2.2.2.2.2.2.2.2.1 (gk_Receiver _) (by k_asm) (by k_asm) (by k_asm) ?_) | (refine nmK nf1137.2.2.2.2.2.2.2.2.2.2.2.2.2.2.2.2.2.2.2.2.2.2.2.1 (gk_law_round_right _) (by k_asm) (by k_asm) (by k_asm) ?_) | (refine nmB nf1137.2.2.2.2.2.2.2.2.2.2.2.2.2.2.2.2.2.2.2.2.2.2.2.2.1 (bk_range _) (by k_asm) (by k_asm) (by k_asm) ?_))))) | (with_reducible refine wpAny_If ?_) | walk1 | (dsimp only; walk1) | (leave1; (try dsimp only)) | fail "no step"))
  all_goals (try dsimp only)
  with_reducible rename News _ _ _ _ => hh
  have ND9 := nd_same hh ND9 rfl
  all_goals (refine wpG_execs_consA ?_)
  all_goals (repeat' (first | (k_unfold; (try dsimp only)) | (k_end; wrow_close) | ((with_reducible show wpAny _ _ (eval (Expr.Name _ _) _) _ _ _); first | ((k_here; (with_reducible first | (refine nmL (by first | exact nf1088.1 | exact nf1088.2.1 | exact nf1088.2.2.1 | exact nf1088.2.2.2.1 | exact nf1088.2.2.2.2.1) (by k_asm) (by k_dflt (exact Eq.refl (some _))) ?_) | (refine nmB nf1088.2.2.2.2.2.1 (bk_len _) (by k_asm) (by k_asm) (by k_asm) ?_) | (refine nmB nf1088.2.2.2.2.2.2.1 (bk_max _) (by k_asm) (by k_asm) (by k_asm) ?_) | (refine nmB nf1088.2.2.2.2.2.2.2.1 (bk_int _) (by k_asm) (by k_asm) (by k_asm) ?_) | (refine nmL (by first | exact nf1137.1 | exact nf1137.2.1 | exact nf1137.2.2.1 | exact nf1137.2.2.2.1 | exact nf1137.2.2.2.2.1 | exact nf1137.2.2.2.2.2.1 | exact nf1137.2.2.2.2.2.2.1 | exact nf1137.2.2.2.2.2.2.2.1 | exact nf1137.2.2.2.2.2.2.2.2.1 | exact nf1137.2.2.2.2.2.2.2.2.2.1 | exact nf1137.2.2.2.2.2.2.2.2.2.2.1 | exact nf1137.2.2.2.2.2.2.2.2.2.2.2.1 | exact nf1137.2.2.2.2.2.2.2.2.2.2.2.2.1 | exact nf1137.2.2.2.2.2.2.2.2.2.2.2.2.2.1) (by k_asm) (by k_dflt (exact Eq.refl (some _))) ?_) | (refine nmK nf1137.2.2.2.2.2.2.2.2.2.2.2.2.2.2.1 (gk_law_pool _) (by k_asm) (by k_asm) (by k_asm) ?_) | (refine nmK nf1137.2.2.2.2.2.2.2.2.2.2.2.2.2.2.2.1 (gk_law_limits _) (by k_asm) (by k_asm) (by k_asm) ?_) | (refine nmK nf1137.2.2.2.2.2.2.2.2.2.2.2.2.2.2.2.2.1 (gk_Limits _) (by k_asm) (by k_asm) (by k_asm) ?_) | (refine nmK nf1137.2.2.2.2.2.2.2.2.2.2.2.2.2.2.2.2.2.1 (gk_Tcb _) (by k_asm) (by k_asm) (by k_asm) ?_) | (refine nmK nf1137.2.2.2.2.2.2.2.2.2.2.2.2.2.2.2.2.2.2.1 (gk_law_take _) (by k_asm) (by k_asm) (by k_asm) ?_) | (refine nmK nf1137.2.2.2.2.2.2.2.2.2.2.2.2.2.2.2.2.2.2.2.1 (gk_law_clock_right _) (by k_asm) (by k_asm) (by k_asm) ?_) | (refine nmK nf1137.2.2.2.2.2.2.2.2.2.2.2.2.2.2.2.2.2.2.2.2.1 (gk_law_segment_right _) (by k_asm) (by k_asm) (by k_asm) ?_) | (refine nmK nf1137.2.2.2.2.2.2.2.2.2.2.2.2.2.2.2.2.2.2.2.2.2.1 (gk_law_one _) (by k_asm) (by k_asm) (by k_asm) ?_) | (refine nmK nf1137.2.2.2.2.2.2.2.2.2.2.2.2.2.2.2.2.2.2.2.2.2.2.1 (gk_Receiver _) (by k_asm) (by k_asm) (by k_asm) ?_) | (refine nmK nf1137.2.2.2.2.2.2.2.2.2.2.2.2.2.2.2.2.2.2.2.2.2.2.2.1 (gk_law_round_right _) (by k_asm) (by k_asm) (by k_asm) ?_) | (refine nmB nf1137.2.2.2.2.2.2.2.2.2.2.2.2.2.2.2.2.2.2.2.2.2.2.2.2.1 (bk_range _) (by k_asm) (by k_asm) (by k_asm) ?_))))) | (with_reducible refine wpAny_If ?_) | walk1 | (dsimp only; walk1) | (leave1; (try dsimp only)) | fail "no step"))
  all_goals (try dsimp only)
  refine wpG_execs_cons (wpG_ForRange (m := fun _ => none) (news := []) (J := JLaw hw.x) (wpAny_mono (Q := JRng hs.x.heap hL.x _ (JLaw hw.x)) ?lh (fun _ _ x => x) (fun _ _ x => x)) rfl ?lstep ?lR)
  case lstep =>
    intro m₁ news₁ h₁ tk I o v t hJ F N ND
    exact law_step _ _ _ _ _ X T _ B _ _ _ _ _ _ _ _ _ m₁ news₁ h₁ tk I o v t hJ F N ND
  case lR =>
    intro m' news' h' tk' hJ F N ND
    dsimp only
    refine wpG.of ?_
    k_steps
    all_goals (try dsimp only)
    all_goals (exact ret _ _ F.keep)
  case lh =>
    (repeat' (first | (k_unfold; (try dsimp only)) | (k_end; wrow_close) | ((with_reducible show wpAny _ _ (eval (Expr.Name _ _) _) _ _ _); first | ((k_here; (with_reducible first | (refine nmL (by first | exact nf1088.1 | exact nf1088.2.1 | exact nf1088.2.2.1 | exact nf1088.2.2.2.1 | exact nf1088.2.2.2.2.1) (by k_asm) (by k_dflt (exact Eq.refl (some _))) ?_) | (refine nmB nf1088.2.2.2.2.2.1 (bk_len _) (by k_asm) (by k_asm) (by k_asm) ?_) | (refine nmB nf1088.2.2.2.2.2.2.1 (bk_max _) (by k_asm) (by k_asm) (by k_asm) ?_) | (refine nmB nf1088.2.2.2.2.2.2.2.1 (bk_int _) (by k_asm) (by k_asm) (by k_asm) ?_) | (refine nmL (by first | exact nf1137.1 | exact nf1137.2.1 | exact nf1137.2.2.1 | exact nf1137.2.2.2.1 | exact nf1137.2.2.2.2.1 | exact nf1137.2.2.2.2.2.1 | exact nf1137.2.2.2.2.2.2.1 | exact nf1137.2.2.2.2.2.2.2.1 | exact nf1137.2.2.2.2.2.2.2.2.1 | exact nf1137.2.2.2.2.2.2.2.2.2.1 | exact nf1137.2.2.2.2.2.2.2.2.2.2.1 | exact nf1137.2.2.2.2.2.2.2.2.2.2.2.1 | exact nf1137.2.2.2.2.2.2.2.2.2.2.2.2.1 | exact nf1137.2.2.2.2.2.2.2.2.2.2.2.2.2.1) (by k_asm) (by k_dflt (exact Eq.refl (some _))) ?_) | (refine nmK nf1137.2.2.2.2.2.2.2.2.2.2.2.2.2.2.1 (gk_law_pool _) (by k_asm) (by k_asm) (by k_asm) ?_) | (refine nmK nf1137.2.2.2.2.2.2.2.2.2.2.2.2.2.2.2.1 (gk_law_limits _) (by k_asm) (by k_asm) (by k_asm) ?_) | (refine nmK nf1137.2.2.2.2.2.2.2.2.2.2.2.2.2.2.2.2.1 (gk_Limits _) (by k_asm) (by k_asm) (by k_asm) ?_) | (refine nmK nf1137.2.2.2.2.2.2.2.2.2.2.2.2.2.2.2.2.2.1 (gk_Tcb _) (by k_asm) (by k_asm) (by k_asm) ?_) | (refine nmK nf1137.2.2.2.2.2.2.2.2.2.2.2.2.2.2.2.2.2.2.1 (gk_law_take _) (by k_asm) (by k_asm) (by k_asm) ?_) | (refine nmK nf1137.2.2.2.2.2.2.2.2.2.2.2.2.2.2.2.2.2.2.2.1 (gk_law_clock_right _) (by k_asm) (by k_asm) (by k_asm) ?_) | (refine nmK nf1137.2.2.2.2.2.2.2.2.2.2.2.2.2.2.2.2.2.2.2.2.1 (gk_law_segment_right _) (by k_asm) (by k_asm) (by k_asm) ?_) | (refine nmK nf1137.2.2.2.2.2.2.2.2.2.2.2.2.2.2.2.2.2.2.2.2.2.1 (gk_law_one _) (by k_asm) (by k_asm) (by k_asm) ?_) | (refine nmK nf1137.2.2.2.2.2.2.2.2.2.2.2.2.2.2.2.2.2.2.2.2.2.2.1 (gk_Receiver _) (by k_asm) (by k_asm) (by k_asm) ?_) | (refine nmK nf1137.2.2.2.2.2.2.2.2.2.2.2.2.2.2.2.2.2.2.2.2.2.2.2.1 (gk_law_round_right _) (by k_asm) (by k_asm) (by k_asm) ?_) | (refine nmB nf1137.2.2.2.2.2.2.2.2.2.2.2.2.2.2.2.2.2.2.2.2.2.2.2.2.1 (bk_range _) (by k_asm) (by k_asm) (by k_asm) ?_))))) | ((with_reducible show wpAny _ _ (call (Value.ref _) _) _ _ _); first | (((with_reducible show wpAny _ _ (call (Value.ref 1095) _) _ _ _); k_dflt (first | ((refine Sp.use (take_sp _ _ _ _ _ _ _ _ _ ?a1 ?a2 ?a3 ?a4 ?a5) (by k_asm) (by k_asm) (by k_asm) (by k_asm) (by k_asm) rfl rfl rfl rfl (nb rfl) (nb rfl) (by ktr_rel) ?znd ?_; (case znd => k_allIn); (case a1 => kaf_pre); (case a2 => kaf_pre); (case a3 => kaf_pre); (case a4 => kaf_pre); (case a5 => kaf_pre); k_whole); intro v9 nl9 h9 tk9 P9; obtain ⟨k9, t9, a9, ta9, b9, tb9, n9, rfl, p91, p92, p93, p94, p95, rfl⟩ := P9; intro F9 N9 ND9; dsimp only [List.cons_append, List.nil_append] at N9 ND9; (try k_sweep); (try dsimp only)))))) | (with_reducible refine wpAny_If ?_) | walk1 | (dsimp only; walk1) | (leave1; (try dsimp only)) | fail "no step"))
    all_goals (try dsimp only)
    with_reducible rename Fr _ _ _ _ => hf
    with_reducible rename News _ _ _ _ => hh
    with_reducible rename IsRange _ _ _ _ _ _ _ _ => hr9
    refine ⟨_, _, _, _, _, _, _, _, _, rfl, rfl, hr9, ?_, ?_, hf, news_pick hh (by ktr_rel), ?_, ⟨_, _, _, _, _, _, _, _, _, _, _, _, _, _, _, _, _, _, _, _, _, _, _, _, _, _, _, _, _, _, _, _, _, _, _, _, ⟨_, _, _, _, _, _, _, _, _, _, _, _, _, _, _, _, _, _, _, #[], _, _, _, _, _, _, _, _, p93, p94, p95, hA9, hW9, hR, ?_, ?_, BkD.of (held := (((#[] : Array UInt8).size : Nat) : Int)) hd9 rfl, rfl⟩, (TcD.of rfl), hM9, hb9, hq1, hq2, hq3, hq4, hq5, hq6, rfl, rfl, rfl⟩⟩
    all_goals first | (clear hh ND9; omega) | (clear hh ND9; have z0 : (#[] : Array UInt8).size = 0 := rfl; omega) | k_allIn
end Mine
end PartL1
end SecNL
theorem Mine.flush47 : True := by first | (w_top off; walk1) | trivial
end SecLMN
theorem Mine.flush48 : True := by first | (w_top off; walk1) | trivial
end SecBase
theorem Mine.flush49 : True := by first | (w_top off; walk1) | trivial
section PartF1
open PySem PySem.W PySem.Calls PyProof.Rows PyProof.V PySem.Spec
set_option Elab.async false
set_option maxRecDepth 100000
set_option maxHeartbeats 4000000
set_option pp.maxSteps 3000
namespace Mine
theorem fin1 : PySem.Challenge.rw_on0348_01.Holds := by
  refine hdF ?_
  intro w s₀ s₁ mg mb G Y fa o pm cd doc dV kV ho hd hcd hD hmg hg args vals as hpre hlay hrd hwl hlo
  have KX := kIn_of Y
  have e1137 : nsIn (K w.params) mainGlobals (PySem.Str.ofString "law") = some (some (.ref 1137)) := by k_is
  refine Ground.open G ?_
  intro T B D TE TW
  try (refine guard_noD D (by decide +kernel) ?_; clear D)
  wrow_args hpre hlay hrd hwl hlo
  with_reducible rename Heap.IsList _ _ _ => hl9
  with_reducible rename IntsAre _ _ => hi9
  with_reducible rename ¬ _ < _ => hc9
  have z2 : mg (PySem.Str.ofString "law") = some (.ref fa) := hmg
  have efa : fa = 1137 := by
    have z3 := Option.some.inj ((mg_of KX T.g e1137).symm.trans z2)
    injection z3 with z4
    exact z4.symm
  subst efa
  have hlen := hi9.length
  refine wpG_call ?_
  refine law_call w s₁ _ mg mb KX T _ _ _ hl9 hi9 (by omega) _ (fun h' tk hk => ?_)
  show GoodWG _ _ _ _ _ _ _
  refine GoodW.toG ?_
  refine ⟨.inl ⟨_, .bool true, [], rfl, ?hn, ReadsW.bool _, ?hp, fun _ => ⟨.nil, fun _ ha => nomatch ha⟩⟩, hk, rfl, hg⟩
  case hn => intro cls; rfl
  case hp => first | rfl | wrow_post | trace_state
end Mine
end PartF1
theorem PySem.Challenge.cw_on0348_01_holds : PySem.Challenge.rw_on0348_01.Holds :=
  Mine.fin1
